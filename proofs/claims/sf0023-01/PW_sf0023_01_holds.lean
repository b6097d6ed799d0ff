import PyProof.Rows.All
import Wide.All
import OpenK.AllK
import Wide.FinOn
import Lean
import PySem.Challenge.RW_sf0023_01
set_option Elab.async false
set_option maxRecDepth 100000
set_option linter.all false
set_option compiler.extract_closed false
set_option pp.deepTerms false
set_option pp.maxSteps 3000
set_option genInjectivity false
set_option genSizeOf false
set_option genSizeOfSpec false
namespace Mine
noncomputable section
local macro_rules | `(tactic| k_qdec)=>`(tactic| decide +kernel)
set_option maxHeartbeats 0
open PySem PySem.W PySem.Calls PyProof.Rows
theorem wsr (n : Str) (h : namesMeet PySem.Challenge.rw_sf0023_01.row.prog PySem.Challenge.rw_sf0023_01.row.prog.main.body (fun sc x=>x != n || !(sc.names.lookup x == some .globalImplicit || sc.names.lookup x == some .globalExplicit)) = true) : readsOut PySem.Challenge.rw_sf0023_01.row.prog PySem.Challenge.rw_sf0023_01.row.prog.main.body n = false:=by
  unfold readsOut;rw [h];rfl
theorem ws1 : readsOut PySem.Challenge.rw_sf0023_01.row.prog PySem.Challenge.rw_sf0023_01.row.prog.main.body "vars" = false:=wsr _ (by decide +kernel)
theorem ws2 : readsOut PySem.Challenge.rw_sf0023_01.row.prog PySem.Challenge.rw_sf0023_01.row.prog.main.body "dir" = false:=wsr _ (by decide +kernel)
theorem ws3 : readsOut PySem.Challenge.rw_sf0023_01.row.prog PySem.Challenge.rw_sf0023_01.row.prog.main.body "locals" = false:=wsr _ (by decide +kernel)
theorem wsb : (["vars","dir","locals"] : List Str).filter (readsOut PySem.Challenge.rw_sf0023_01.row.prog PySem.Challenge.rw_sf0023_01.row.prog.main.body) = []:=by
  rw [List.filter_cons,List.filter_cons,List.filter_cons,ws1,ws2,ws3];rfl
theorem ws : PySem.Challenge.rw_sf0023_01.wellSaid = true:=by
  unfold OpenLaw.wellSaid OpenRow.wellSaid OpenRow.partSaid looksOpen
  rw [wsb]
  repeat' (with_reducible apply look_both)
  all_goals decide +kernel

set_option maxHeartbeats 0
noncomputable section
abbrev PPO:=Program → Params → Obj
def dec : Nat → Nat → List Nat
  | 0,_=>[]
  | k + 1,n=>(n % 256) :: dec k (n / 256)
def S (k n : Nat) : Str:=⟨⟨dec k n⟩⟩
noncomputable abbrev zs0 : Str:=S 13 0x79702e7475632f6d69616c632f
abbrev zs1 : Str:=S 17 0x78656765722e6c6c696d72616d6d617267
abbrev zs2 : Str:=S 8 0x5f5f74696e695f5f
abbrev zs3 : Str:=S 4 0x666c6573
abbrev zs4 : Str:=S 10 0x5f5f656c75646f6d5f5f
abbrev zs5 : Str:=S 7 0x5f5f636f645f5f
abbrev zs6 : Str:=S 15 0x5f5f6f6e656e696c74737269665f5f
abbrev zs7 : Str:=S 21 0x5f5f736574756269727474615f6369746174735f5f
abbrev zs8 : Str:=S 4 0x646c6f74
abbrev zs9 : Str:=S 18 0x656372756f732e6c6c696d72616d6d617267
abbrev zs10 : Str:=S 19 0x746573726168632e6c6c696d72616d6d617267
abbrev zs11 : Str:=S 4 0x656d616e
abbrev zs12 : Str:=S 4 0x65646f4e
abbrev zs13 : Str:=S 4 0x706f6f4c
abbrev zs14 : Str:=S 12 0x5f5f656d616e6c6175715f5f
abbrev zs15 : Str:=S 8 0x6e6f697469736f50
abbrev zs16 : Str:=S 9 0x726f7272456c6f6f54
abbrev zs17 : Str:=S 10 0x726f7272457865676552
abbrev zs18 : Str:=S 11 0x666f5f6e6f697469736f70
abbrev zs19 : Str:=S 6 0x726f73727543
abbrev zs20 : Str:=S 4 0x72696150
abbrev zs21 : Str:=S 13 0x31305f3332303066735f77616c
abbrev zs22 : Str:=S 5 0x6c6c61775f
abbrev zs23 : Str:=S 11 0x5f5f6665726b6165775f5f
abbrev zs24 : Str:=S 7 0x74655372616843
abbrev zs25 : Str:=S 8 0x5f5f656d616e5f5f
abbrev zs26 : Str:=S 15 0x5f5f736e6f697461746f6e6e615f5f
abbrev zs27 : Str:=S 5 0x7974706d45
abbrev zs28 : Str:=S 5 0x7374726170
abbrev zs29 : Str:=S 5 0x7372616843
abbrev zs30 : Str:=S 8 0x5f5f746369645f5f
abbrev zs31 : Str:=S 3 0x746143
abbrev zs32 : Str:=S 3 0x746c41
abbrev zs33 : Str:=S 4 0x72617453
abbrev zs34 : Str:=S 4 0x73756c50
abbrev zs35 : Str:=S 3 0x74704f
abbrev zs36 : Str:=S 6 0x6465746f7571
abbrev zs37 : Str:=S 7 0x6e726574746150
abbrev zs38 : Str:=S 5 0x4c4c414d53
abbrev zs39 : Str:=S 7 0x5352455454454c
abbrev zs40 : Str:=S 7 0x53455255474946
abbrev zs41 : Str:=S 10 0x534e4749535f454d414e
abbrev zs42 : Str:=S 9 0x534e4749535f584548
abbrev zs43 : Str:=S 11 0x534e4749535f4c4154434f
abbrev zs44 : Str:=S 12 0x534552554749465f54534f4d
abbrev zs45 : Str:=S 4 0x6e617073
abbrev zs46 : Str:=S 11 0x7373616c635f64656d616e
abbrev zs47 : Str:=S 5 0x726576654e
abbrev zs48 : Str:=S 5 0x656e697073
abbrev zs49 : Str:=S 14 0x736c6576656c5f74656b63617262
abbrev zs50 : Str:=S 7 0x6c6c615f746163
abbrev zs51 : Str:=S 11 0x7265646165527865676552
abbrev zs52 : Str:=S 11 0x5f5f6567616b6361705f5f
abbrev zs53 : Str:=S 10 0x5f5f726564616f6c5f5f
abbrev zs54 : Str:=S 8 0x5f5f636570735f5f
abbrev zs55 : Str:=S 12 0x5f5f736e69746c6975625f5f
abbrev zs56 : Str:=S 8 0x5f5f656c69665f5f
abbrev zs57 : Str:=S 10 0x5f5f6465686361635f5f
abbrev zs58 : Str:=S 26 0x7a797877767574737271706f6e6d6c6b6a696867666564636261
abbrev zs59 : Str:=S 52 0x5a595857565554535251504f4e4d4c4b4a4948474645444342417a797877767574737271706f6e6d6c6b6a696867666564636261
abbrev zs60 : Str:=S 10 0x39383736353433323130
abbrev zs61 : Str:=S 63 0x393837363534333231305f5a595857565554535251504f4e4d4c4b4a4948474645444342417a797877767574737271706f6e6d6c6b6a696867666564636261
abbrev zs62 : Str:=S 22 0x46454443424166656463626139383736353433323130
abbrev zs63 : Str:=S 8 0x3736353433323130
abbrev zs64 : Str:=S 13 0x534550414353455f4e49414c50
abbrev zs65 : Str:=S 5 0x6e75676562
abbrev zs66 : Str:=S 10 0x78656765725f64616572
abbrev zs67 : Str:=S 12 0x6e7265747461705f64616572
abbrev zs68 : Str:=S 9 0x6c6961705f77616c5f
abbrev zs69 : Str:=S 11 0x64656c64616c5f77616c5f
abbrev zs70 : Str:=S 9 0x6e6769735f77616c5f
abbrev zs71 : Str:=S 9 0x657361625f77616c5f
abbrev zs72 : Str:=S 10 0x74756f62615f77616c5f
abbrev zs73 : Str:=S 10 0x64726165685f77616c5f
abbrev zs74 : Str:=S 11 0x6465747261705f77616c5f
abbrev zs75 : Str:=S 10 0x6f735f73695f77616c5f
abbrev zs76 : Str:=S 14 0x6465747261705f73695f77616c5f
abbrev zs77 : Str:=S 3 0x504f54
abbrev zs78 : Str:=S 6 0x746165706552
abbrev zs79 : Str:=S 3 0x77616c
abbrev zs80 : Str:=S 11 0x534e4150535f5353414c43
abbrev zs81 : Str:=S 10 0x65646f6e5f7372616863
abbrev zs82 : Str:=S 8 0x646e655f656e696c
abbrev zs83 : Str:=S 9 0x6572756769665f7369
abbrev zs84 : Str:=S 4 0x6e676973
abbrev zs85 : Str:=S 4 0x6564616d
abbrev zs86 : Str:=S 4 0x68676968
abbrev zs87 : Str:=S 11 0x5441455045525f54534f4d
abbrev zs88 : Str:=S 11 0x44455453454e5f54534f4d
abbrev zs89 : Str:=S 5 0x45534f4f4c
abbrev zs90 : Str:=S 5 0x5448474954
abbrev zs91 : Str:=S 6 0x534b4e414c42
abbrev zs92 : Str:=S 11 0x534e4749535f5941525453
abbrev zs93 : Str:=S 7 0x454e494c57454e
abbrev zs94 : Str:=S 4 0x65646f6e
abbrev zs95 : Str:=S 7 0x656e6f645f7369
abbrev zs96 : Str:=S 6 0x737472617473
abbrev zs97 : Str:=S 10 0x656c6968775f656b6174
abbrev zs98 : Str:=S 6 0x7265626d756e
abbrev zs99 : Str:=S 11 0xa09202f245e7d5d3f2b2a
abbrev zs100 : Str:=S 6 0x64656c696166
abbrev zs101 : Str:=S 7 0x7265766f5f7369
abbrev zs102 : Str:=S 7 0x706f74735f7369
abbrev zs103 : Str:=S 6 0x6563696f6863
abbrev zs104 : Str:=S 6 0x68636e617262
abbrev zs105 : Str:=S 6 0x6465706f6f6c
abbrev zs106 : Str:=S 6 0x656c676e6973
abbrev zs107 : Str:=S 7 0x666f5f65646f63
abbrev zs108 : Str:=S 7 0x64656e69666564
abbrev zs109 : Str:=S 9 0x656e696c5f656b6174
abbrev zs110 : Str:=S 11 0x736b6e616c625f70696b73
abbrev zs111 : Str:=S 8 0x6e6f697469736f70
abbrev zs112 : Str:=S 11 0x74615f6e6f697469736f70
abbrev zs113 : Str:=S 8 0x7974706d655f7369
abbrev zs114 : Str:=S 10 0x746e656d656c706d6f63
abbrev zs115 : Str:=S 10 0x666f2e74655372616843
abbrev zs116 : Str:=S 12 0x6e6170732e74655372616843
abbrev zs117 : Str:=S 12 0x6564616d2e74655372616843
abbrev zs118 : Str:=S 11 0x646e655f656e696c5f7369
abbrev zs119 : Str:=S 10 0x7373616c635f6e676973
abbrev zs120 : Str:=S 17 0x5f5f74696e695f5f2e6e6f697469736f50
abbrev zs121 : Str:=S 18 0x5f5f74696e695f5f2e726f7272456c6f6f54
abbrev zs122 : Str:=S 15 0x5f5f74696e695f5f2e726f73727543
abbrev zs123 : Str:=S 14 0x656e6f645f73692e726f73727543
abbrev zs124 : Str:=S 11 0x6b6565702e726f73727543
abbrev zs125 : Str:=S 13 0x7374726174732e726f73727543
abbrev zs126 : Str:=S 11 0x656b61742e726f73727543
abbrev zs127 : Str:=S 11 0x70696b732e726f73727543
abbrev zs128 : Str:=S 17 0x656c6968775f656b61742e726f73727543
abbrev zs129 : Str:=S 11 0x656d616e2e726f73727543
abbrev zs130 : Str:=S 13 0x6465746f75712e726f73727543
abbrev zs131 : Str:=S 16 0x5f5f74696e695f5f2e74655372616843
abbrev zs132 : Str:=S 11 0x79656b2e74655372616843
abbrev zs133 : Str:=S 9 0x646c6f742e65646f4e
abbrev zs134 : Str:=S 14 0x5f5f74696e695f5f2e7372616843
abbrev zs135 : Str:=S 10 0x646c6f742e7372616843
abbrev zs136 : Str:=S 13 0x5f5f74696e695f5f2e72696150
abbrev zs137 : Str:=S 9 0x646c6f742e72696150
abbrev zs138 : Str:=S 13 0x5f5f74696e695f5f2e706f6f4c
abbrev zs139 : Str:=S 16 0x5f5f74696e695f5f2e6e726574746150
abbrev zs140 : Str:=S 20 0x5f5f74696e695f5f2e7265646165527865676552
abbrev zs141 : Str:=S 18 0x64656c6961662e7265646165527865676552
abbrev zs142 : Str:=S 19 0x7265766f5f73692e7265646165527865676552
abbrev zs143 : Str:=S 19 0x706f74735f73692e7265646165527865676552
abbrev zs144 : Str:=S 18 0x6563696f68632e7265646165527865676552
abbrev zs145 : Str:=S 18 0x68636e6172622e7265646165527865676552
abbrev zs146 : Str:=S 18 0x6465706f6f6c2e7265646165527865676552
abbrev zs147 : Str:=S 18 0x656c676e69732e7265646165527865676552
abbrev zs148 : Str:=S 19 0x666f5f65646f632e7265646165527865676552
abbrev zs149 : Str:=S 18 0x6465746f75712e7265646165527865676552
abbrev zs150 : Str:=S 19 0x64656e696665642e7265646165527865676552
abbrev zs151 : Str:=S 12 0x656e6f6e2e74655372616843
abbrev zs152 : Str:=S 13 0x79726576652e74655372616843
abbrev zs153 : Str:=S 11 0x746f642e74655372616843
abbrev zs154 : Str:=S 11 0x736e6f6974696e69666564
def en (P : Params) (s : Str) (t : Tok) (v : Value) : DictEntry:=⟨PyData.keyHash P s,.str s t,v⟩
noncomputable def nth : List Stmt → Nat → Stmt
  | [],_=>.Pass ⟨0,0,0,0⟩
  | x :: r,i=>match Nat.beq i 0 with | true=>x | false=>nth r (i - 1)
noncomputable def fdAt (p : Program) (i j : Nat) : Stmt:=match Nat.beq j 1000 with
  | true=>nth p.main.body i
  | false=>match nth p.main.body i with | .ClassDef _ _ _ b _ _ _ _ _ _ _=>nth b j | s=>s
noncomputable def dA (p : Program) (i j : Nat) : Arguments:=match fdAt p i j with | .FunctionDef _ a _ _ _ _ _ _ _ _=>a | _=>⟨[],[],none,[],[],none,[]⟩
noncomputable def dB (p : Program) (i j : Nat) : List Stmt:=match fdAt p i j with | .FunctionDef _ _ b _ _ _ _ _ _ _=>b | _=>[]
noncomputable def dS (p : Program) (i j : Nat) : Scope:=match fdAt p i j with | .FunctionDef _ _ _ _ _ _ s _ _ _=>s | _=>p.main.scope
noncomputable def setAll : BT → List (Nat × Obj) → BT
  | T,[]=>T
  | T,x :: r=>setAll (T.set x.1 fun _=>x.2) r
noncomputable def insAll : BT → Nat → List Obj → BT
  | T,_,[]=>T
  | T,n,o :: r=>insAll (T.ins n o) (n + 1) r
noncomputable def boots (P : Params) : BT:=insAll .nil 0 [boot_o_0 P,boot_o_1 P,boot_o_2 P,boot_o_3 P,boot_o_4 P,boot_o_5 P,boot_o_6 P,boot_o_7 P,boot_o_8 P,boot_o_9 P,boot_o_10 P]
noncomputable def q0 : Pos:=⟨0,0,0,0⟩
noncomputable def envM (p : Program) : Env:={ scope:=p.main.scope,locals:=mainNs,globals:=mainNs,cells:=[],code:=.ref 13,frame:=some 14 }
noncomputable def cM (p : Program) : Code:=.body (behindTheImports p) (envM p)
noncomputable def stO (t : Program → Params → BT) (n k : Nat) (p : Program) (w : World) (os : OsState) : SharedT:=⟨t p w.params,n,(boot_heap w.params).life,⟨[]⟩,boot_drawn,k,os⟩
noncomputable abbrev pgm : Program:=PySem.Challenge.pw_sf0023_01
noncomputable abbrev annM : Option Value:=some (.ref 6)
noncomputable abbrev z0 : String:=PySem.W.SL.s10062305145149207511x16
noncomputable abbrev z1 : String:=PySem.W.SL.s10220274742760427390x26
noncomputable abbrev z2 : String:=PySem.W.SL.s11030030927630378310x26
noncomputable abbrev z3 : String:=PySem.W.SL.s11443829558043349243x14
noncomputable abbrev z4 : String:=PySem.W.SL.s12411053484034534018x21
noncomputable abbrev z5 : String:=PySem.W.SL.s14018661285674007319x4
noncomputable abbrev z6 : String:=PySem.W.SL.s14755015743595814543x17
noncomputable abbrev z7 : String:=PySem.W.SL.s16656946322747308186x12
noncomputable abbrev z8 : String:=PySem.W.SL.s17162191345867700912x4
noncomputable abbrev z9 : String:=PySem.W.SL.s2742458400755230247x6
noncomputable abbrev z10 : String:=PySem.W.SL.s2766695959194262286x5
noncomputable abbrev z11 : String:=PySem.W.SL.s4278001404047624695x13
noncomputable abbrev z12 : String:=PySem.W.SL.s4290257624100764138x5
noncomputable abbrev z13 : String:=PySem.W.SL.s4860613602091757760x24
noncomputable abbrev z14 : String:=PySem.W.SL.s5160863994218179198x17
noncomputable abbrev z15 : String:=PySem.W.SL.s5856160107412720595x4
noncomputable abbrev z16 : String:=PySem.W.SL.s5946037652744460706x9
noncomputable abbrev z17 : String:=PySem.W.SL.s6511155373996960695x17
noncomputable abbrev z18 : String:=PySem.W.SL.s658472552662922059x5
noncomputable abbrev z19 : String:=PySem.W.SL.s7097527257260152453x26
noncomputable abbrev z20 : String:=PySem.W.SL.s7174869446012820540x8
noncomputable def o12 : PPO:=fun p P=>⟨.none,none,(.fields ⟨[]⟩),⟨[]⟩⟩
def l0_0 (p : Program) (P : Params) : List Obj:=[⟨.type z10,none,(.seq ⟨[]⟩ 0),⟨[]⟩⟩]
def l0_1 (p : Program) (P : Params) : List Obj:=[⟨.type z15,none,(.fields ⟨[.str (S 8 0x3e656c75646f6d3c) 182,.str (S 8 0x3e656c75646f6d3c) 183,.str zs0 184,.int 1 0,.int 0 0,.int 0 0,.int 0 0,.int 0 0,.ref 11,.bool false,.int 181 0,.ref 12,.none,.none,.none,.none,.int 185 0,.int 1 0,.str zs0 186]⟩),⟨[]⟩⟩,⟨.type z18,none,.plain,⟨[some (.ref 13),some (.ref 3),some (.ref 3),none,some (.str (S 8 0x5f5f6e69616d5f5f) 164),none,some (.ref 0)]⟩⟩]
noncomputable def tr0 (p : Program) (P : Params) : BT:=insAll (setAll (boots P) []) 11 (l0_0 p P ++ ([o12 p P] ++ l0_1 p P))
noncomputable def tr1 (p : Program) (P : Params) : BT:=insAll (setAll (tr0 p P) []) 15 []
noncomputable def o3v1 : PPO:=fun p P=>⟨.type z5,none,(.dict ⟨[en P zs25 165 (.str zs9 194),en P zs5 166 (.none),en P zs52 167 (.none),en P zs53 168 (.builtin z19),en P zs54 169 (.none),en P zs26 170 (.ref 6),en P zs55 171 (.ref 4),en P zs56 173 (.str zs0 172),en P zs57 174 (.none),en P zs22 193 (.ref 21),en P zs38 197 (.str zs58 196),en P zs39 200 (.str zs59 199),en P zs40 202 (.str zs60 201),en P zs41 206 (.str zs61 205),en P zs42 209 (.str zs62 208),en P zs43 211 (.str zs63 210),en P zs44 213 (.int 4000 212)]⟩ 17),⟨[]⟩⟩
noncomputable def o12v1 : PPO:=fun p P=>⟨.none,none,(.fields ⟨[.int 1 0,.int 0 0,.ref 20]⟩),⟨[]⟩⟩
def l2_0 (p : Program) (P : Params) : List Obj:=[⟨.type z10,none,(.seq ⟨[]⟩ 0),⟨[]⟩⟩,⟨.none,none,(.fields ⟨[]⟩),⟨[]⟩⟩,⟨.type z10,none,(.seq ⟨[.str (S 1 0x6b) 190]⟩ 0),⟨[]⟩⟩,⟨.type z10,none,(.seq ⟨[]⟩ 0),⟨[]⟩⟩,⟨.none,none,(.func ⟨zs22,zs22,dA p 0 1000,.stmts (dB p 0 1000),dS p 0 1000,0,[],.none,.none,.none,.none,none,.none,.none,0⟩),⟨[]⟩⟩,⟨.type z15,none,(.fields ⟨[.str zs22 187,.str zs22 188,.str zs0 189,.int 1 0,.int 1 0,.int 0 0,.int 0 0,.int 3 0,.ref 15,.bool true,.int 181 0,.ref 16,.none,.ref 17,.ref 18,.ref 19,.int 191 0,.int 1 0,.str zs0 192]⟩),⟨[]⟩⟩,⟨.type z20,none,(.func ⟨zs22,zs22,dA p 0 1000,.stmts (dB p 0 1000),dS p 0 1000,3,[],.none,.none,.none,.str (S 8 0x5f5f6e69616d5f5f) 164,none,.ref 20,.none,0⟩),⟨[]⟩⟩]
noncomputable def tr2 (p : Program) (P : Params) : BT:=insAll (setAll (tr1 p P) [(3,o3v1 p P),(12,o12v1 p P)]) 15 (l2_0 p P)
noncomputable def o3v2 : PPO:=fun p P=>⟨.type z5,none,(.dict ⟨[en P zs25 165 (.str zs9 194),en P zs5 166 (.none),en P zs52 167 (.none),en P zs53 168 (.builtin z19),en P zs54 169 (.none),en P zs26 170 (.ref 6),en P zs55 171 (.ref 4),en P zs56 173 (.str zs0 172),en P zs57 174 (.none),en P zs22 193 (.ref 21),en P zs38 197 (.str zs58 196),en P zs39 200 (.str zs59 199),en P zs40 202 (.str zs60 201),en P zs41 206 (.str zs61 205),en P zs42 209 (.str zs62 208),en P zs43 211 (.str zs63 210),en P zs44 213 (.int 4000 212),en P zs64 235 (.ref 22)]⟩ 18),⟨[]⟩⟩
def l3_0 (p : Program) (P : Params) : List Obj:=[⟨.type z5,none,(.dict ⟨[en P (S 1 0x6e) 214 (.int 10 215),en P (S 1 0x74) 216 (.int 9 217),en P (S 1 0x72) 218 (.int 13 219),en P (S 1 0x66) 220 (.int 12 221),en P (S 1 0x76) 222 (.int 11 223),en P (S 1 0x61) 224 (.int 7 225),en P (S 1 0x62) 226 (.int 8 227)]⟩ 7),⟨[]⟩⟩]
noncomputable def tr3 (p : Program) (P : Params) : BT:=insAll (setAll (tr2 p P) [(3,o3v2 p P)]) 22 (l3_0 p P)
noncomputable def o2v1 : PPO:=fun p P=>⟨.none,none,(.dict ⟨[en P (S 31 0x302e6e6f697470656378452e5f5f73657373616c636275735f5f2e65707974) 322 (.int 82 0),en P (S 31 0x6e2e6e6f697470656378452e5f5f73657373616c636275735f5f2e65707974) 323 (.int 1 0)]⟩ 2),⟨[]⟩⟩
noncomputable def o3v3 : PPO:=fun p P=>⟨.type z5,none,(.dict ⟨[en P zs25 165 (.str zs9 194),en P zs5 166 (.none),en P zs52 167 (.none),en P zs53 168 (.builtin z19),en P zs54 169 (.none),en P zs26 170 (.ref 6),en P zs55 171 (.ref 4),en P zs56 173 (.str zs0 172),en P zs57 174 (.none),en P zs22 193 (.ref 21),en P zs38 197 (.str zs58 196),en P zs39 200 (.str zs59 199),en P zs40 202 (.str zs60 201),en P zs41 206 (.str zs61 205),en P zs42 209 (.str zs62 208),en P zs43 211 (.str zs63 210),en P zs44 213 (.int 4000 212),en P zs64 235 (.ref 22),en P zs15 275 (.ref 46),en P zs18 287 (.ref 57),en P zs16 325 (.ref 82),en P zs17 341 (.ref 95)]⟩ 22),⟨[]⟩⟩
noncomputable def o12v2 : PPO:=fun p P=>⟨.none,none,(.fields ⟨[.int 1 0,.int 0 0,.ref 20,.int 13 0,.int 0 0,.ref 28,.int 22 0,.int 0 0,.ref 56,.int 31 0,.int 0 0,.ref 63,.int 42 0,.int 0 0,.ref 91]⟩),⟨[]⟩⟩
def l4_0 (p : Program) (P : Params) : List Obj:=[⟨.type z10,none,(.seq ⟨[]⟩ 0),⟨[]⟩⟩,⟨.type z2,none,(.fields ⟨[.builtin z0,.type z8]⟩),⟨[]⟩⟩,⟨.type z5,none,(.dict ⟨[en P zs4 243 (.str zs9 194),en P zs14 245 (.str zs15 244),en P zs6 247 (.int 13 246),en P zs2 257 (.ref 36),en P zs8 264 (.ref 43),en P zs7 268 (.ref 44)]⟩ 6),⟨[]⟩⟩,⟨.type z10,none,(.seq ⟨[]⟩ 0),⟨[]⟩⟩,⟨.none,none,(.fields ⟨[.int 15 0,.int 4 0,.ref 35,.int 20 0,.int 4 0,.ref 42]⟩),⟨[]⟩⟩,⟨.type z15,none,(.fields ⟨[.str zs15 238,.str zs15 239,.str zs0 240,.int 13 0,.int 0 0,.int 0 0,.int 0 0,.int 0 0,.ref 26,.bool false,.int 181 0,.ref 27,.none,.none,.none,.none,.int 241 0,.int 13 0,.str zs0 242]⟩),⟨[]⟩⟩,⟨.type z18,none,.plain,⟨[some (.ref 28),some (.ref 3),some (.ref 25),none,some (.str zs9 194),none,some (.ref 0)]⟩⟩,⟨.type z10,none,(.seq ⟨[]⟩ 0),⟨[]⟩⟩,⟨.none,none,(.fields ⟨[]⟩),⟨[]⟩⟩,⟨.type z10,none,(.seq ⟨[.str zs3 251,.str (S 6 0x74657366666f) 252,.str (S 4 0x656e696c) 253,.str (S 6 0x6e6d756c6f63) 254]⟩ 0),⟨[]⟩⟩,⟨.type z10,none,(.seq ⟨[]⟩ 0),⟨[]⟩⟩,⟨.none,none,(.func ⟨zs2,zs120,dA p 10 0,.stmts (dB p 10 0),dS p 10 0,0,[],.none,.none,.none,.none,none,.none,.none,0⟩),⟨[]⟩⟩,⟨.type z15,none,(.fields ⟨[.str zs2 248,.str zs120 249,.str zs0 250,.int 15 0,.int 4 0,.int 0 0,.int 0 0,.int 3 0,.ref 30,.bool true,.int 181 0,.ref 31,.none,.ref 32,.ref 33,.ref 34,.int 255 0,.int 15 0,.str zs0 256]⟩),⟨[]⟩⟩,⟨.type z20,none,(.func ⟨zs2,zs120,dA p 10 0,.stmts (dB p 10 0),dS p 10 0,3,[],.none,.none,.none,.str zs9 194,none,.ref 35,.none,0⟩),⟨[]⟩⟩,⟨.type z10,none,(.seq ⟨[]⟩ 0),⟨[]⟩⟩,⟨.none,none,(.fields ⟨[]⟩),⟨[]⟩⟩,⟨.type z10,none,(.seq ⟨[.str zs3 261]⟩ 0),⟨[]⟩⟩,⟨.type z10,none,(.seq ⟨[]⟩ 0),⟨[]⟩⟩,⟨.none,none,(.func ⟨zs8,S 13 0x646c6f742e6e6f697469736f50,dA p 10 1,.stmts (dB p 10 1),dS p 10 1,0,[],.none,.none,.none,.none,none,.none,.none,0⟩),⟨[]⟩⟩,⟨.type z15,none,(.fields ⟨[.str zs8 258,.str (S 13 0x646c6f742e6e6f697469736f50) 259,.str zs0 260,.int 20 0,.int 1 0,.int 0 0,.int 0 0,.int 3 0,.ref 37,.bool true,.int 181 0,.ref 38,.none,.ref 39,.ref 40,.ref 41,.int 262 0,.int 20 0,.str zs0 263]⟩),⟨[]⟩⟩,⟨.type z20,none,(.func ⟨zs8,S 13 0x646c6f742e6e6f697469736f50,dA p 10 1,.stmts (dB p 10 1),dS p 10 1,3,[],.none,.none,.none,.str zs9 194,none,.ref 42,.none,0⟩),⟨[]⟩⟩,⟨.type z10,none,(.seq ⟨[.str (S 6 0x6e6d756c6f63) 265,.str (S 4 0x656e696c) 266,.str (S 6 0x74657366666f) 267]⟩ 0),⟨[]⟩⟩,⟨.type z5,none,(.dict ⟨[en P zs4 243 (.str zs9 194),en P zs6 247 (.int 13 246),en P zs2 257 (.ref 36),en P zs8 264 (.ref 43),en P zs7 268 (.ref 44),en P zs30 270 (.ref 47),en P zs23 272 (.ref 48),en P zs5 273 (.none)]⟩ 4),⟨[]⟩⟩,⟨.type z8,none,(.cls ⟨zs15,[.type z9],[.ref 46,.type z9],45,zs15,true,[],[],false,none,false⟩),⟨[none,none,some (.str zs15 236),some (.str zs15 244),some (.builtin z3),some (.bool true)]⟩⟩,⟨.type z6,none,(.fields ⟨[.str zs30 269,.ref 46,.builtin z17,.builtin z4]⟩),⟨[]⟩⟩,⟨.type z6,none,(.fields ⟨[.str zs23 271,.ref 46,.builtin z1,.none]⟩),⟨[]⟩⟩,⟨.type z12,none,(.fields ⟨[.ref 46,.ref 46,.ref 46]⟩),⟨[]⟩⟩,⟨.type z2,none,(.fields ⟨[.builtin z13,.ref 46]⟩),⟨[]⟩⟩,⟨.type z10,none,(.seq ⟨[]⟩ 0),⟨[]⟩⟩,⟨.none,none,(.fields ⟨[]⟩),⟨[]⟩⟩,⟨.type z10,none,(.seq ⟨[.str (S 4 0x74786574) 279,.str (S 6 0x74657366666f) 280,.str (S 2 0x7461) 281,.str (S 4 0x656e696c) 282,.str zs65 283,.str (S 4 0x65726568) 284]⟩ 0),⟨[]⟩⟩,⟨.type z10,none,(.seq ⟨[]⟩ 0),⟨[]⟩⟩,⟨.none,none,(.func ⟨zs18,zs18,dA p 11 1000,.stmts (dB p 11 1000),dS p 11 1000,0,[],.none,.none,.none,.none,none,.none,.none,0⟩),⟨[]⟩⟩,⟨.type z15,none,(.fields ⟨[.str zs18 276,.str zs18 277,.str zs0 278,.int 22 0,.int 2 0,.int 0 0,.int 0 0,.int 3 0,.ref 51,.bool true,.int 181 0,.ref 52,.none,.ref 53,.ref 54,.ref 55,.int 285 0,.int 22 0,.str zs0 286]⟩),⟨[]⟩⟩,⟨.type z20,none,(.func ⟨zs18,zs18,dA p 11 1000,.stmts (dB p 11 1000),dS p 11 1000,3,[],.none,.none,.none,.str zs9 194,none,.ref 56,.none,0⟩),⟨[]⟩⟩,⟨.type z10,none,(.seq ⟨[.type z16]⟩ 0),⟨[]⟩⟩,⟨.type z2,none,(.fields ⟨[.builtin z0,.type z8]⟩),⟨[]⟩⟩,⟨.type z5,none,(.dict ⟨[en P zs4 295 (.str zs9 194),en P zs14 297 (.str zs16 296),en P zs6 299 (.int 31 298),en P zs2 308 (.ref 72),en P zs8 315 (.ref 79),en P zs7 318 (.ref 80)]⟩ 6),⟨[]⟩⟩,⟨.type z10,none,(.seq ⟨[]⟩ 0),⟨[]⟩⟩,⟨.none,none,(.fields ⟨[.int 33 0,.int 4 0,.ref 71,.int 38 0,.int 4 0,.ref 78]⟩),⟨[]⟩⟩,⟨.type z15,none,(.fields ⟨[.str zs16 290,.str zs16 291,.str zs0 292,.int 31 0,.int 0 0,.int 0 0,.int 0 0,.int 0 0,.ref 61,.bool false,.int 181 0,.ref 62,.none,.none,.none,.none,.int 293 0,.int 31 0,.str zs0 294]⟩),⟨[]⟩⟩,⟨.type z18,none,.plain,⟨[some (.ref 63),some (.ref 3),some (.ref 60),none,some (.str zs9 194),none,some (.ref 0)]⟩⟩,⟨.type z10,none,(.seq ⟨[.none]⟩ 0),⟨[]⟩⟩,⟨.type z10,none,(.seq ⟨[]⟩ 0),⟨[]⟩⟩,⟨.none,none,(.fields ⟨[]⟩),⟨[]⟩⟩,⟨.type z10,none,(.seq ⟨[.str zs3 303,.str (S 4 0x74616877) 304,.str (S 2 0x7461) 305]⟩ 0),⟨[]⟩⟩,⟨.type z10,none,(.seq ⟨[]⟩ 0),⟨[]⟩⟩,⟨.none,none,(.func ⟨zs2,zs121,dA p 12 0,.stmts (dB p 12 0),dS p 12 0,0,[],.none,.none,.none,.none,none,.none,.none,0⟩),⟨[]⟩⟩,⟨.type z15,none,(.fields ⟨[.str zs2 300,.str zs121 301,.str zs0 302,.int 33 0,.int 3 0,.int 0 0,.int 0 0,.int 3 0,.ref 66,.bool true,.int 181 0,.ref 67,.none,.ref 68,.ref 69,.ref 70,.int 306 0,.int 33 0,.str zs0 307]⟩),⟨[]⟩⟩,⟨.type z20,none,(.func ⟨zs2,zs121,dA p 12 0,.stmts (dB p 12 0),dS p 12 0,3,[],.ref 65,.none,.none,.str zs9 194,none,.ref 71,.none,0⟩),⟨[]⟩⟩,⟨.type z10,none,(.seq ⟨[]⟩ 0),⟨[]⟩⟩,⟨.none,none,(.fields ⟨[]⟩),⟨[]⟩⟩,⟨.type z10,none,(.seq ⟨[.str zs3 312]⟩ 0),⟨[]⟩⟩,⟨.type z10,none,(.seq ⟨[]⟩ 0),⟨[]⟩⟩,⟨.none,none,(.func ⟨zs8,S 14 0x646c6f742e726f7272456c6f6f54,dA p 12 1,.stmts (dB p 12 1),dS p 12 1,0,[],.none,.none,.none,.none,none,.none,.none,0⟩),⟨[]⟩⟩,⟨.type z15,none,(.fields ⟨[.str zs8 309,.str (S 14 0x646c6f742e726f7272456c6f6f54) 310,.str zs0 311,.int 38 0,.int 1 0,.int 0 0,.int 0 0,.int 3 0,.ref 73,.bool true,.int 181 0,.ref 74,.none,.ref 75,.ref 76,.ref 77,.int 313 0,.int 38 0,.str zs0 314]⟩),⟨[]⟩⟩,⟨.type z20,none,(.func ⟨zs8,S 14 0x646c6f742e726f7272456c6f6f54,dA p 12 1,.stmts (dB p 12 1),dS p 12 1,3,[],.none,.none,.none,.str zs9 194,none,.ref 78,.none,0⟩),⟨[]⟩⟩,⟨.type z10,none,(.seq ⟨[.str (S 2 0x7461) 316,.str (S 4 0x74616877) 317]⟩ 0),⟨[]⟩⟩,⟨.type z5,none,(.dict ⟨[en P zs4 295 (.str zs9 194),en P zs6 299 (.int 31 298),en P zs2 308 (.ref 72),en P zs8 315 (.ref 79),en P zs7 318 (.ref 80),en P zs23 320 (.ref 83),en P zs5 321 (.none)]⟩ 3),⟨[]⟩⟩,⟨.type z8,none,(.cls ⟨zs16,[.type z16],[.ref 82,.type z16,.type z11,.type z9],81,zs16,true,[],[.ref 95],false,none,false⟩),⟨[some (.ref 58),none,some (.str zs16 288),some (.str zs16 296),some (.builtin z14),some (.bool true)]⟩⟩,⟨.type z6,none,(.fields ⟨[.str zs23 319,.ref 82,.builtin z1,.none]⟩),⟨[]⟩⟩,⟨.type z12,none,(.fields ⟨[.ref 82,.ref 82,.ref 82]⟩),⟨[]⟩⟩,⟨.type z2,none,(.fields ⟨[.builtin z13,.ref 82]⟩),⟨[]⟩⟩,⟨.type z10,none,(.seq ⟨[.ref 82]⟩ 0),⟨[]⟩⟩,⟨.type z2,none,(.fields ⟨[.builtin z0,.type z8]⟩),⟨[]⟩⟩,⟨.type z5,none,(.dict ⟨[en P zs4 333 (.str zs9 194),en P zs14 335 (.str zs17 334),en P zs6 337 (.int 42 336),en P zs7 338 (.ref 93)]⟩ 4),⟨[]⟩⟩,⟨.type z10,none,(.seq ⟨[]⟩ 0),⟨[]⟩⟩,⟨.none,none,(.fields ⟨[]⟩),⟨[]⟩⟩,⟨.type z15,none,(.fields ⟨[.str zs17 328,.str zs17 329,.str zs0 330,.int 42 0,.int 0 0,.int 0 0,.int 0 0,.int 0 0,.ref 89,.bool false,.int 181 0,.ref 90,.none,.none,.none,.none,.int 331 0,.int 42 0,.str zs0 332]⟩),⟨[]⟩⟩,⟨.type z18,none,.plain,⟨[some (.ref 91),some (.ref 3),some (.ref 88),none,some (.str zs9 194),none,some (.ref 0)]⟩⟩,⟨.type z10,none,(.seq ⟨[]⟩ 0),⟨[]⟩⟩,⟨.type z5,none,(.dict ⟨[en P zs4 333 (.str zs9 194),en P zs6 337 (.int 42 336),en P zs7 338 (.ref 93),en P zs5 339 (.none)]⟩ 2),⟨[]⟩⟩,⟨.type z8,none,(.cls ⟨zs17,[.ref 82],[.ref 95,.ref 82,.type z16,.type z11,.type z9],94,zs17,true,[],[],false,none,false⟩),⟨[some (.ref 86),none,some (.str zs17 326),some (.str zs17 334),some (.builtin z14),some (.bool true)]⟩⟩,⟨.type z12,none,(.fields ⟨[.ref 95,.ref 95,.ref 95]⟩),⟨[]⟩⟩,⟨.type z2,none,(.fields ⟨[.builtin z13,.ref 95]⟩),⟨[]⟩⟩]
noncomputable def tr4 (p : Program) (P : Params) : BT:=insAll (setAll (tr3 p P) [(2,o2v1 p P),(3,o3v3 p P),(12,o12v2 p P)]) 23 (l4_0 p P)
noncomputable def o3v4 : PPO:=fun p P=>⟨.type z5,none,(.dict ⟨[en P zs25 165 (.str zs10 502),en P zs5 166 (.none),en P zs52 167 (.none),en P zs53 168 (.builtin z19),en P zs54 169 (.none),en P zs26 170 (.ref 6),en P zs55 171 (.ref 4),en P zs56 173 (.str zs0 172),en P zs57 174 (.none),en P zs22 193 (.ref 21),en P zs38 197 (.str zs58 196),en P zs39 200 (.str zs59 199),en P zs40 202 (.str zs60 201),en P zs41 206 (.str zs61 205),en P zs42 209 (.str zs62 208),en P zs43 211 (.str zs63 210),en P zs44 213 (.int 4000 212),en P zs64 235 (.ref 22),en P zs15 275 (.ref 46),en P zs18 287 (.ref 57),en P zs16 325 (.ref 82),en P zs17 341 (.ref 95),en P zs19 501 (.ref 222),en P zs77 505 (.int 127 504)]⟩ 24),⟨[]⟩⟩
noncomputable def o12v3 : PPO:=fun p P=>⟨.none,none,(.fields ⟨[.int 1 0,.int 0 0,.ref 20,.int 13 0,.int 0 0,.ref 28,.int 22 0,.int 0 0,.ref 56,.int 31 0,.int 0 0,.ref 63,.int 42 0,.int 0 0,.ref 91,.int 44 0,.int 0 0,.ref 103]⟩),⟨[]⟩⟩
def l5_0 (p : Program) (P : Params) : List Obj:=[⟨.type z10,none,(.seq ⟨[]⟩ 0),⟨[]⟩⟩,⟨.type z2,none,(.fields ⟨[.builtin z0,.type z8]⟩),⟨[]⟩⟩,⟨.type z5,none,(.dict ⟨[en P zs4 349 (.str zs9 194),en P zs14 351 (.str zs19 350),en P zs6 353 (.int 44 352),en P zs2 363 (.ref 112),en P zs95 370 (.ref 119),en P (S 4 0x6b656570) 380 (.ref 127),en P zs96 388 (.ref 134),en P (S 4 0x656b6174) 396 (.ref 141),en P (S 4 0x70696b73) 404 (.ref 148),en P zs97 413 (.ref 155),en P zs109 420 (.ref 162),en P zs110 429 (.ref 170),en P zs11 437 (.ref 177),en P zs98 446 (.ref 184),en P zs111 453 (.ref 191),en P zs112 461 (.ref 198),en P (S 5 0x6465646f63) 473 (.ref 205),en P (S 6 0x657061637365) 481 (.ref 212),en P zs36 491 (.ref 219),en P zs7 494 (.ref 220)]⟩ 20),⟨[]⟩⟩,⟨.type z10,none,(.seq ⟨[]⟩ 0),⟨[]⟩⟩,⟨.none,none,(.fields ⟨[.int 46 0,.int 4 0,.ref 111,.int 50 0,.int 4 0,.ref 118,.int 53 0,.int 4 0,.ref 126,.int 59 0,.int 4 0,.ref 133,.int 62 0,.int 4 0,.ref 140,.int 69 0,.int 4 0,.ref 147,.int 75 0,.int 4 0,.ref 154,.int 81 0,.int 4 0,.ref 161,.int 84 0,.int 4 0,.ref 169,.int 87 0,.int 4 0,.ref 176,.int 93 0,.int 4 0,.ref 183,.int 101 0,.int 4 0,.ref 190,.int 104 0,.int 4 0,.ref 197,.int 107 0,.int 4 0,.ref 204,.int 115 0,.int 4 0,.ref 211,.int 129 0,.int 4 0,.ref 218]⟩),⟨[]⟩⟩,⟨.type z15,none,(.fields ⟨[.str zs19 344,.str zs19 345,.str zs0 346,.int 44 0,.int 0 0,.int 0 0,.int 0 0,.int 0 0,.ref 101,.bool false,.int 181 0,.ref 102,.none,.none,.none,.none,.int 347 0,.int 44 0,.str zs0 348]⟩),⟨[]⟩⟩,⟨.type z18,none,.plain,⟨[some (.ref 103),some (.ref 3),some (.ref 100),none,some (.str zs9 194),none,some (.ref 0)]⟩⟩,⟨.type z10,none,(.seq ⟨[.int 0 354]⟩ 0),⟨[]⟩⟩,⟨.type z10,none,(.seq ⟨[]⟩ 0),⟨[]⟩⟩,⟨.none,none,(.fields ⟨[]⟩),⟨[]⟩⟩,⟨.type z10,none,(.seq ⟨[.str zs3 358,.str (S 4 0x74786574) 359,.str (S 2 0x7461) 360]⟩ 0),⟨[]⟩⟩,⟨.type z10,none,(.seq ⟨[]⟩ 0),⟨[]⟩⟩,⟨.none,none,(.func ⟨zs2,zs122,dA p 14 0,.stmts (dB p 14 0),dS p 14 0,0,[],.none,.none,.none,.none,none,.none,.none,0⟩),⟨[]⟩⟩,⟨.type z15,none,(.fields ⟨[.str zs2 355,.str zs122 356,.str zs0 357,.int 46 0,.int 3 0,.int 0 0,.int 0 0,.int 3 0,.ref 106,.bool true,.int 181 0,.ref 107,.none,.ref 108,.ref 109,.ref 110,.int 361 0,.int 46 0,.str zs0 362]⟩),⟨[]⟩⟩,⟨.type z20,none,(.func ⟨zs2,zs122,dA p 14 0,.stmts (dB p 14 0),dS p 14 0,3,[],.ref 105,.none,.none,.str zs9 194,none,.ref 111,.none,0⟩),⟨[]⟩⟩,⟨.type z10,none,(.seq ⟨[]⟩ 0),⟨[]⟩⟩,⟨.none,none,(.fields ⟨[]⟩),⟨[]⟩⟩,⟨.type z10,none,(.seq ⟨[.str zs3 367]⟩ 0),⟨[]⟩⟩,⟨.type z10,none,(.seq ⟨[]⟩ 0),⟨[]⟩⟩,⟨.none,none,(.func ⟨zs95,zs123,dA p 14 1,.stmts (dB p 14 1),dS p 14 1,0,[],.none,.none,.none,.none,none,.none,.none,0⟩),⟨[]⟩⟩,⟨.type z15,none,(.fields ⟨[.str zs95 364,.str zs123 365,.str zs0 366,.int 50 0,.int 1 0,.int 0 0,.int 0 0,.int 3 0,.ref 113,.bool true,.int 181 0,.ref 114,.none,.ref 115,.ref 116,.ref 117,.int 368 0,.int 50 0,.str zs0 369]⟩),⟨[]⟩⟩,⟨.type z20,none,(.func ⟨zs95,zs123,dA p 14 1,.stmts (dB p 14 1),dS p 14 1,3,[],.none,.none,.none,.str zs9 194,none,.ref 118,.none,0⟩),⟨[]⟩⟩,⟨.type z10,none,(.seq ⟨[.int 0 371]⟩ 0),⟨[]⟩⟩,⟨.type z10,none,(.seq ⟨[]⟩ 0),⟨[]⟩⟩,⟨.none,none,(.fields ⟨[]⟩),⟨[]⟩⟩,⟨.type z10,none,(.seq ⟨[.str zs3 375,.str (S 5 0x6461656861) 376,.str (S 2 0x7461) 377]⟩ 0),⟨[]⟩⟩,⟨.type z10,none,(.seq ⟨[]⟩ 0),⟨[]⟩⟩,⟨.none,none,(.func ⟨S 4 0x6b656570,zs124,dA p 14 2,.stmts (dB p 14 2),dS p 14 2,0,[],.none,.none,.none,.none,none,.none,.none,0⟩),⟨[]⟩⟩,⟨.type z15,none,(.fields ⟨[.str (S 4 0x6b656570) 372,.str zs124 373,.str zs0 374,.int 53 0,.int 2 0,.int 0 0,.int 0 0,.int 3 0,.ref 121,.bool true,.int 181 0,.ref 122,.none,.ref 123,.ref 124,.ref 125,.int 378 0,.int 53 0,.str zs0 379]⟩),⟨[]⟩⟩,⟨.type z20,none,(.func ⟨S 4 0x6b656570,zs124,dA p 14 2,.stmts (dB p 14 2),dS p 14 2,3,[],.ref 120,.none,.none,.str zs9 194,none,.ref 126,.none,0⟩),⟨[]⟩⟩,⟨.type z10,none,(.seq ⟨[]⟩ 0),⟨[]⟩⟩,⟨.none,none,(.fields ⟨[]⟩),⟨[]⟩⟩,⟨.type z10,none,(.seq ⟨[.str zs3 384,.str (S 4 0x64726f77) 385]⟩ 0),⟨[]⟩⟩,⟨.type z10,none,(.seq ⟨[]⟩ 0),⟨[]⟩⟩,⟨.none,none,(.func ⟨zs96,zs125,dA p 14 3,.stmts (dB p 14 3),dS p 14 3,0,[],.none,.none,.none,.none,none,.none,.none,0⟩),⟨[]⟩⟩,⟨.type z15,none,(.fields ⟨[.str zs96 381,.str zs125 382,.str zs0 383,.int 59 0,.int 2 0,.int 0 0,.int 0 0,.int 3 0,.ref 128,.bool true,.int 181 0,.ref 129,.none,.ref 130,.ref 131,.ref 132,.int 386 0,.int 59 0,.str zs0 387]⟩),⟨[]⟩⟩,⟨.type z20,none,(.func ⟨zs96,zs125,dA p 14 3,.stmts (dB p 14 3),dS p 14 3,3,[],.none,.none,.none,.str zs9 194,none,.ref 133,.none,0⟩),⟨[]⟩⟩,⟨.type z10,none,(.seq ⟨[]⟩ 0),⟨[]⟩⟩,⟨.none,none,(.fields ⟨[]⟩),⟨[]⟩⟩,⟨.type z10,none,(.seq ⟨[.str zs3 392,.str zs84 393]⟩ 0),⟨[]⟩⟩,⟨.type z10,none,(.seq ⟨[]⟩ 0),⟨[]⟩⟩,⟨.none,none,(.func ⟨S 4 0x656b6174,zs126,dA p 14 4,.stmts (dB p 14 4),dS p 14 4,0,[],.none,.none,.none,.none,none,.none,.none,0⟩),⟨[]⟩⟩,⟨.type z15,none,(.fields ⟨[.str (S 4 0x656b6174) 389,.str zs126 390,.str zs0 391,.int 62 0,.int 1 0,.int 0 0,.int 0 0,.int 3 0,.ref 135,.bool true,.int 181 0,.ref 136,.none,.ref 137,.ref 138,.ref 139,.int 394 0,.int 62 0,.str zs0 395]⟩),⟨[]⟩⟩,⟨.type z20,none,(.func ⟨S 4 0x656b6174,zs126,dA p 14 4,.stmts (dB p 14 4),dS p 14 4,3,[],.none,.none,.none,.str zs9 194,none,.ref 140,.none,0⟩),⟨[]⟩⟩,⟨.type z10,none,(.seq ⟨[]⟩ 0),⟨[]⟩⟩,⟨.none,none,(.fields ⟨[]⟩),⟨[]⟩⟩,⟨.type z10,none,(.seq ⟨[.str zs3 400,.str (S 4 0x64726f77) 401]⟩ 0),⟨[]⟩⟩,⟨.type z10,none,(.seq ⟨[]⟩ 0),⟨[]⟩⟩,⟨.none,none,(.func ⟨S 4 0x70696b73,zs127,dA p 14 5,.stmts (dB p 14 5),dS p 14 5,0,[],.none,.none,.none,.none,none,.none,.none,0⟩),⟨[]⟩⟩,⟨.type z15,none,(.fields ⟨[.str (S 4 0x70696b73) 397,.str zs127 398,.str zs0 399,.int 69 0,.int 2 0,.int 0 0,.int 0 0,.int 3 0,.ref 142,.bool true,.int 181 0,.ref 143,.none,.ref 144,.ref 145,.ref 146,.int 402 0,.int 69 0,.str zs0 403]⟩),⟨[]⟩⟩,⟨.type z20,none,(.func ⟨S 4 0x70696b73,zs127,dA p 14 5,.stmts (dB p 14 5),dS p 14 5,3,[],.none,.none,.none,.str zs9 194,none,.ref 147,.none,0⟩),⟨[]⟩⟩,⟨.type z10,none,(.seq ⟨[]⟩ 0),⟨[]⟩⟩,⟨.none,none,(.fields ⟨[]⟩),⟨[]⟩⟩,⟨.type z10,none,(.seq ⟨[.str zs3 408,.str (S 5 0x736e676973) 409,.str zs65 410]⟩ 0),⟨[]⟩⟩,⟨.type z10,none,(.seq ⟨[]⟩ 0),⟨[]⟩⟩,⟨.none,none,(.func ⟨zs97,zs128,dA p 14 6,.stmts (dB p 14 6),dS p 14 6,0,[],.none,.none,.none,.none,none,.none,.none,0⟩),⟨[]⟩⟩,⟨.type z15,none,(.fields ⟨[.str zs97 405,.str zs128 406,.str zs0 407,.int 75 0,.int 2 0,.int 0 0,.int 0 0,.int 3 0,.ref 149,.bool true,.int 181 0,.ref 150,.none,.ref 151,.ref 152,.ref 153,.int 411 0,.int 75 0,.str zs0 412]⟩),⟨[]⟩⟩,⟨.type z20,none,(.func ⟨zs97,zs128,dA p 14 6,.stmts (dB p 14 6),dS p 14 6,3,[],.none,.none,.none,.str zs9 194,none,.ref 154,.none,0⟩),⟨[]⟩⟩,⟨.type z10,none,(.seq ⟨[]⟩ 0),⟨[]⟩⟩,⟨.none,none,(.fields ⟨[]⟩),⟨[]⟩⟩,⟨.type z10,none,(.seq ⟨[.str zs3 417]⟩ 0),⟨[]⟩⟩,⟨.type z10,none,(.seq ⟨[]⟩ 0),⟨[]⟩⟩,⟨.none,none,(.func ⟨zs109,S 16 0x656e696c5f656b61742e726f73727543,dA p 14 7,.stmts (dB p 14 7),dS p 14 7,0,[],.none,.none,.none,.none,none,.none,.none,0⟩),⟨[]⟩⟩,⟨.type z15,none,(.fields ⟨[.str zs109 414,.str (S 16 0x656e696c5f656b61742e726f73727543) 415,.str zs0 416,.int 81 0,.int 1 0,.int 0 0,.int 0 0,.int 3 0,.ref 156,.bool true,.int 181 0,.ref 157,.none,.ref 158,.ref 159,.ref 160,.int 418 0,.int 81 0,.str zs0 419]⟩),⟨[]⟩⟩,⟨.type z20,none,(.func ⟨zs109,S 16 0x656e696c5f656b61742e726f73727543,dA p 14 7,.stmts (dB p 14 7),dS p 14 7,3,[],.none,.none,.none,.str zs9 194,none,.ref 161,.none,0⟩),⟨[]⟩⟩,⟨.type z10,none,(.seq ⟨[.str (S 2 0x920) 421]⟩ 0),⟨[]⟩⟩,⟨.type z10,none,(.seq ⟨[]⟩ 0),⟨[]⟩⟩,⟨.none,none,(.fields ⟨[]⟩),⟨[]⟩⟩,⟨.type z10,none,(.seq ⟨[.str zs3 425,.str (S 5 0x736e676973) 426]⟩ 0),⟨[]⟩⟩,⟨.type z10,none,(.seq ⟨[]⟩ 0),⟨[]⟩⟩,⟨.none,none,(.func ⟨zs110,S 18 0x736b6e616c625f70696b732e726f73727543,dA p 14 8,.stmts (dB p 14 8),dS p 14 8,0,[],.none,.none,.none,.none,none,.none,.none,0⟩),⟨[]⟩⟩,⟨.type z15,none,(.fields ⟨[.str zs110 422,.str (S 18 0x736b6e616c625f70696b732e726f73727543) 423,.str zs0 424,.int 84 0,.int 2 0,.int 0 0,.int 0 0,.int 3 0,.ref 164,.bool true,.int 181 0,.ref 165,.none,.ref 166,.ref 167,.ref 168,.int 427 0,.int 84 0,.str zs0 428]⟩),⟨[]⟩⟩,⟨.type z20,none,(.func ⟨zs110,S 18 0x736b6e616c625f70696b732e726f73727543,dA p 14 8,.stmts (dB p 14 8),dS p 14 8,3,[],.ref 163,.none,.none,.str zs9 194,none,.ref 169,.none,0⟩),⟨[]⟩⟩,⟨.type z10,none,(.seq ⟨[]⟩ 0),⟨[]⟩⟩,⟨.none,none,(.fields ⟨[]⟩),⟨[]⟩⟩,⟨.type z10,none,(.seq ⟨[.str zs3 433,.str (S 4 0x65726568) 434]⟩ 0),⟨[]⟩⟩,⟨.type z10,none,(.seq ⟨[]⟩ 0),⟨[]⟩⟩,⟨.none,none,(.func ⟨zs11,zs129,dA p 14 9,.stmts (dB p 14 9),dS p 14 9,0,[],.none,.none,.none,.none,none,.none,.none,0⟩),⟨[]⟩⟩,⟨.type z15,none,(.fields ⟨[.str zs11 430,.str zs129 431,.str zs0 432,.int 87 0,.int 1 0,.int 0 0,.int 0 0,.int 3 0,.ref 171,.bool true,.int 181 0,.ref 172,.none,.ref 173,.ref 174,.ref 175,.int 435 0,.int 87 0,.str zs0 436]⟩),⟨[]⟩⟩,⟨.type z20,none,(.func ⟨zs11,zs129,dA p 14 9,.stmts (dB p 14 9),dS p 14 9,3,[],.none,.none,.none,.str zs9 194,none,.ref 176,.none,0⟩),⟨[]⟩⟩,⟨.type z10,none,(.seq ⟨[]⟩ 0),⟨[]⟩⟩,⟨.none,none,(.fields ⟨[]⟩),⟨[]⟩⟩,⟨.type z10,none,(.seq ⟨[.str zs3 441,.str zs65 442,.str (S 7 0x73657275676966) 443]⟩ 0),⟨[]⟩⟩,⟨.type z10,none,(.seq ⟨[]⟩ 0),⟨[]⟩⟩,⟨.none,none,(.func ⟨zs98,S 13 0x7265626d756e2e726f73727543,dA p 14 10,.stmts (dB p 14 10),dS p 14 10,0,[],.none,.none,.none,.none,none,.none,.none,0⟩),⟨[]⟩⟩,⟨.type z15,none,(.fields ⟨[.str zs98 438,.str (S 13 0x7265626d756e2e726f73727543) 439,.str zs0 440,.int 93 0,.int 1 0,.int 0 0,.int 0 0,.int 3 0,.ref 178,.bool true,.int 181 0,.ref 179,.none,.ref 180,.ref 181,.ref 182,.int 444 0,.int 93 0,.str zs0 445]⟩),⟨[]⟩⟩,⟨.type z20,none,(.func ⟨zs98,S 13 0x7265626d756e2e726f73727543,dA p 14 10,.stmts (dB p 14 10),dS p 14 10,3,[],.none,.none,.none,.str zs9 194,none,.ref 183,.none,0⟩),⟨[]⟩⟩,⟨.type z10,none,(.seq ⟨[]⟩ 0),⟨[]⟩⟩,⟨.none,none,(.fields ⟨[]⟩),⟨[]⟩⟩,⟨.type z10,none,(.seq ⟨[.str zs3 450]⟩ 0),⟨[]⟩⟩,⟨.type z10,none,(.seq ⟨[]⟩ 0),⟨[]⟩⟩,⟨.none,none,(.func ⟨zs111,S 15 0x6e6f697469736f702e726f73727543,dA p 14 11,.stmts (dB p 14 11),dS p 14 11,0,[],.none,.none,.none,.none,none,.none,.none,0⟩),⟨[]⟩⟩,⟨.type z15,none,(.fields ⟨[.str zs111 447,.str (S 15 0x6e6f697469736f702e726f73727543) 448,.str zs0 449,.int 101 0,.int 1 0,.int 0 0,.int 0 0,.int 3 0,.ref 185,.bool true,.int 181 0,.ref 186,.none,.ref 187,.ref 188,.ref 189,.int 451 0,.int 101 0,.str zs0 452]⟩),⟨[]⟩⟩,⟨.type z20,none,(.func ⟨zs111,S 15 0x6e6f697469736f702e726f73727543,dA p 14 11,.stmts (dB p 14 11),dS p 14 11,3,[],.none,.none,.none,.str zs9 194,none,.ref 190,.none,0⟩),⟨[]⟩⟩,⟨.type z10,none,(.seq ⟨[]⟩ 0),⟨[]⟩⟩,⟨.none,none,(.fields ⟨[]⟩),⟨[]⟩⟩,⟨.type z10,none,(.seq ⟨[.str zs3 457,.str (S 6 0x74657366666f) 458]⟩ 0),⟨[]⟩⟩,⟨.type z10,none,(.seq ⟨[]⟩ 0),⟨[]⟩⟩,⟨.none,none,(.func ⟨zs112,S 18 0x74615f6e6f697469736f702e726f73727543,dA p 14 12,.stmts (dB p 14 12),dS p 14 12,0,[],.none,.none,.none,.none,none,.none,.none,0⟩),⟨[]⟩⟩,⟨.type z15,none,(.fields ⟨[.str zs112 454,.str (S 18 0x74615f6e6f697469736f702e726f73727543) 455,.str zs0 456,.int 104 0,.int 2 0,.int 0 0,.int 0 0,.int 3 0,.ref 192,.bool true,.int 181 0,.ref 193,.none,.ref 194,.ref 195,.ref 196,.int 459 0,.int 104 0,.str zs0 460]⟩),⟨[]⟩⟩,⟨.type z20,none,(.func ⟨zs112,S 18 0x74615f6e6f697469736f702e726f73727543,dA p 14 12,.stmts (dB p 14 12),dS p 14 12,3,[],.none,.none,.none,.str zs9 194,none,.ref 197,.none,0⟩),⟨[]⟩⟩,⟨.type z10,none,(.seq ⟨[]⟩ 0),⟨[]⟩⟩,⟨.none,none,(.fields ⟨[]⟩),⟨[]⟩⟩,⟨.type z10,none,(.seq ⟨[.str zs3 465,.str (S 5 0x736e676973) 466,.str (S 4 0x74736f6d) 467,.str (S 4 0x65736162) 468,.str (S 4 0x65646f63) 469,.str (S 5 0x6e656b6174) 470]⟩ 0),⟨[]⟩⟩,⟨.type z10,none,(.seq ⟨[]⟩ 0),⟨[]⟩⟩,⟨.none,none,(.func ⟨S 5 0x6465646f63,S 12 0x6465646f632e726f73727543,dA p 14 13,.stmts (dB p 14 13),dS p 14 13,0,[],.none,.none,.none,.none,none,.none,.none,0⟩),⟨[]⟩⟩,⟨.type z15,none,(.fields ⟨[.str (S 5 0x6465646f63) 462,.str (S 12 0x6465646f632e726f73727543) 463,.str zs0 464,.int 107 0,.int 4 0,.int 0 0,.int 0 0,.int 3 0,.ref 199,.bool true,.int 181 0,.ref 200,.none,.ref 201,.ref 202,.ref 203,.int 471 0,.int 107 0,.str zs0 472]⟩),⟨[]⟩⟩,⟨.type z20,none,(.func ⟨S 5 0x6465646f63,S 12 0x6465646f632e726f73727543,dA p 14 13,.stmts (dB p 14 13),dS p 14 13,3,[],.none,.none,.none,.str zs9 194,none,.ref 204,.none,0⟩),⟨[]⟩⟩,⟨.type z10,none,(.seq ⟨[]⟩ 0),⟨[]⟩⟩,⟨.none,none,(.fields ⟨[]⟩),⟨[]⟩⟩,⟨.type z10,none,(.seq ⟨[.str zs3 477,.str zs84 478]⟩ 0),⟨[]⟩⟩,⟨.type z10,none,(.seq ⟨[]⟩ 0),⟨[]⟩⟩,⟨.none,none,(.func ⟨S 6 0x657061637365,S 13 0x6570616373652e726f73727543,dA p 14 14,.stmts (dB p 14 14),dS p 14 14,0,[],.none,.none,.none,.none,none,.none,.none,0⟩),⟨[]⟩⟩,⟨.type z15,none,(.fields ⟨[.str (S 6 0x657061637365) 474,.str (S 13 0x6570616373652e726f73727543) 475,.str zs0 476,.int 115 0,.int 1 0,.int 0 0,.int 0 0,.int 3 0,.ref 206,.bool true,.int 181 0,.ref 207,.none,.ref 208,.ref 209,.ref 210,.int 479 0,.int 115 0,.str zs0 480]⟩),⟨[]⟩⟩,⟨.type z20,none,(.func ⟨S 6 0x657061637365,S 13 0x6570616373652e726f73727543,dA p 14 14,.stmts (dB p 14 14),dS p 14 14,3,[],.none,.none,.none,.str zs9 194,none,.ref 211,.none,0⟩),⟨[]⟩⟩,⟨.type z10,none,(.seq ⟨[]⟩ 0),⟨[]⟩⟩,⟨.none,none,(.fields ⟨[]⟩),⟨[]⟩⟩,⟨.type z10,none,(.seq ⟨[.str zs3 485,.str (S 3 0x646e65) 486,.str (S 5 0x736e676973) 487,.str zs84 488]⟩ 0),⟨[]⟩⟩,⟨.type z10,none,(.seq ⟨[]⟩ 0),⟨[]⟩⟩,⟨.none,none,(.func ⟨zs36,zs130,dA p 14 15,.stmts (dB p 14 15),dS p 14 15,0,[],.none,.none,.none,.none,none,.none,.none,0⟩),⟨[]⟩⟩,⟨.type z15,none,(.fields ⟨[.str zs36 482,.str zs130 483,.str zs0 484,.int 129 0,.int 2 0,.int 0 0,.int 0 0,.int 3 0,.ref 213,.bool true,.int 181 0,.ref 214,.none,.ref 215,.ref 216,.ref 217,.int 489 0,.int 129 0,.str zs0 490]⟩),⟨[]⟩⟩,⟨.type z20,none,(.func ⟨zs36,zs130,dA p 14 15,.stmts (dB p 14 15),dS p 14 15,3,[],.none,.none,.none,.str zs9 194,none,.ref 218,.none,0⟩),⟨[]⟩⟩,⟨.type z10,none,(.seq ⟨[.str (S 2 0x7461) 492,.str (S 4 0x74786574) 493]⟩ 0),⟨[]⟩⟩,⟨.type z5,none,(.dict ⟨[en P zs4 349 (.str zs9 194),en P zs6 353 (.int 44 352),en P zs2 363 (.ref 112),en P zs95 370 (.ref 119),en P (S 4 0x6b656570) 380 (.ref 127),en P zs96 388 (.ref 134),en P (S 4 0x656b6174) 396 (.ref 141),en P (S 4 0x70696b73) 404 (.ref 148),en P zs97 413 (.ref 155),en P zs109 420 (.ref 162),en P zs110 429 (.ref 170),en P zs11 437 (.ref 177),en P zs98 446 (.ref 184),en P zs111 453 (.ref 191),en P zs112 461 (.ref 198),en P (S 5 0x6465646f63) 473 (.ref 205),en P (S 6 0x657061637365) 481 (.ref 212),en P zs36 491 (.ref 219),en P zs7 494 (.ref 220),en P zs30 496 (.ref 223),en P zs23 498 (.ref 224),en P zs5 499 (.none)]⟩ 4),⟨[]⟩⟩,⟨.type z8,none,(.cls ⟨zs19,[.type z9],[.ref 222,.type z9],221,zs19,true,[],[],false,none,false⟩),⟨[none,none,some (.str zs19 342),some (.str zs19 350),some (.builtin z3),some (.bool true)]⟩⟩,⟨.type z6,none,(.fields ⟨[.str zs30 495,.ref 222,.builtin z17,.builtin z4]⟩),⟨[]⟩⟩,⟨.type z6,none,(.fields ⟨[.str zs23 497,.ref 222,.builtin z1,.none]⟩),⟨[]⟩⟩,⟨.type z12,none,(.fields ⟨[.ref 222,.ref 222,.ref 222]⟩),⟨[]⟩⟩,⟨.type z2,none,(.fields ⟨[.builtin z13,.ref 222]⟩),⟨[]⟩⟩]
noncomputable def tr5 (p : Program) (P : Params) : BT:=insAll (setAll (tr4 p P) [(3,o3v4 p P),(12,o12v3 p P)]) 98 (l5_0 p P)
noncomputable def o3v5 : PPO:=fun p P=>⟨.type z5,none,(.dict ⟨[en P zs25 165 (.str zs10 502),en P zs5 166 (.none),en P zs52 167 (.none),en P zs53 168 (.builtin z19),en P zs54 169 (.none),en P zs26 170 (.ref 6),en P zs55 171 (.ref 4),en P zs56 173 (.str zs0 172),en P zs57 174 (.none),en P zs22 193 (.ref 21),en P zs38 197 (.str zs58 196),en P zs39 200 (.str zs59 199),en P zs40 202 (.str zs60 201),en P zs41 206 (.str zs61 205),en P zs42 209 (.str zs62 208),en P zs43 211 (.str zs63 210),en P zs44 213 (.int 4000 212),en P zs64 235 (.ref 22),en P zs15 275 (.ref 46),en P zs18 287 (.ref 57),en P zs16 325 (.ref 82),en P zs17 341 (.ref 95),en P zs19 501 (.ref 222),en P zs77 505 (.int 127 504),en P zs80 576 (.ref 227)]⟩ 25),⟨[]⟩⟩
def l6_0 (p : Program) (P : Params) : List Obj:=[⟨.type z5,none,(.dict ⟨[en P (S 5 0x6168706c61) 506 (.ref 230),en P (S 5 0x7469676964) 511 (.ref 232),en P (S 5 0x6d756e6c61) 514 (.ref 236),en P (S 5 0x7265707075) 521 (.ref 238),en P (S 5 0x7265776f6c) 524 (.ref 240),en P (S 5 0x6563617073) 527 (.ref 243),en P (S 5 0x6b6e616c62) 532 (.ref 246),en P (S 5 0x74636e7570) 537 (.ref 251),en P (S 6 0x746967696478) 546 (.ref 255),en P (S 5 0x6c72746e63) 553 (.ref 258),en P (S 5 0x746e697270) 558 (.ref 260),en P (S 5 0x6870617267) 561 (.ref 262)]⟩ 12),⟨[]⟩⟩,⟨.type z10,none,(.seq ⟨[.int 65 507,.int 90 508]⟩ 0),⟨[]⟩⟩,⟨.type z10,none,(.seq ⟨[.int 97 509,.int 122 510]⟩ 0),⟨[]⟩⟩,⟨.type z10,none,(.seq ⟨[.ref 228,.ref 229]⟩ 0),⟨[]⟩⟩,⟨.type z10,none,(.seq ⟨[.int 48 512,.int 57 513]⟩ 0),⟨[]⟩⟩,⟨.type z10,none,(.seq ⟨[.ref 231]⟩ 0),⟨[]⟩⟩,⟨.type z10,none,(.seq ⟨[.int 48 515,.int 57 516]⟩ 0),⟨[]⟩⟩,⟨.type z10,none,(.seq ⟨[.int 65 517,.int 90 518]⟩ 0),⟨[]⟩⟩,⟨.type z10,none,(.seq ⟨[.int 97 519,.int 122 520]⟩ 0),⟨[]⟩⟩,⟨.type z10,none,(.seq ⟨[.ref 233,.ref 234,.ref 235]⟩ 0),⟨[]⟩⟩,⟨.type z10,none,(.seq ⟨[.int 65 522,.int 90 523]⟩ 0),⟨[]⟩⟩,⟨.type z10,none,(.seq ⟨[.ref 237]⟩ 0),⟨[]⟩⟩,⟨.type z10,none,(.seq ⟨[.int 97 525,.int 122 526]⟩ 0),⟨[]⟩⟩,⟨.type z10,none,(.seq ⟨[.ref 239]⟩ 0),⟨[]⟩⟩,⟨.type z10,none,(.seq ⟨[.int 9 528,.int 13 529]⟩ 0),⟨[]⟩⟩,⟨.type z10,none,(.seq ⟨[.int 32 530,.int 32 531]⟩ 0),⟨[]⟩⟩,⟨.type z10,none,(.seq ⟨[.ref 241,.ref 242]⟩ 0),⟨[]⟩⟩,⟨.type z10,none,(.seq ⟨[.int 9 533,.int 9 534]⟩ 0),⟨[]⟩⟩,⟨.type z10,none,(.seq ⟨[.int 32 535,.int 32 536]⟩ 0),⟨[]⟩⟩,⟨.type z10,none,(.seq ⟨[.ref 244,.ref 245]⟩ 0),⟨[]⟩⟩,⟨.type z10,none,(.seq ⟨[.int 33 538,.int 47 539]⟩ 0),⟨[]⟩⟩,⟨.type z10,none,(.seq ⟨[.int 58 540,.int 64 541]⟩ 0),⟨[]⟩⟩,⟨.type z10,none,(.seq ⟨[.int 91 542,.int 96 543]⟩ 0),⟨[]⟩⟩,⟨.type z10,none,(.seq ⟨[.int 123 544,.int 126 545]⟩ 0),⟨[]⟩⟩,⟨.type z10,none,(.seq ⟨[.ref 247,.ref 248,.ref 249,.ref 250]⟩ 0),⟨[]⟩⟩,⟨.type z10,none,(.seq ⟨[.int 48 547,.int 57 548]⟩ 0),⟨[]⟩⟩,⟨.type z10,none,(.seq ⟨[.int 65 549,.int 70 550]⟩ 0),⟨[]⟩⟩,⟨.type z10,none,(.seq ⟨[.int 97 551,.int 102 552]⟩ 0),⟨[]⟩⟩,⟨.type z10,none,(.seq ⟨[.ref 252,.ref 253,.ref 254]⟩ 0),⟨[]⟩⟩,⟨.type z10,none,(.seq ⟨[.int 0 554,.int 31 555]⟩ 0),⟨[]⟩⟩,⟨.type z10,none,(.seq ⟨[.int 127 556,.int 127 557]⟩ 0),⟨[]⟩⟩,⟨.type z10,none,(.seq ⟨[.ref 256,.ref 257]⟩ 0),⟨[]⟩⟩,⟨.type z10,none,(.seq ⟨[.int 32 559,.int 126 560]⟩ 0),⟨[]⟩⟩,⟨.type z10,none,(.seq ⟨[.ref 259]⟩ 0),⟨[]⟩⟩,⟨.type z10,none,(.seq ⟨[.int 33 562,.int 126 563]⟩ 0),⟨[]⟩⟩,⟨.type z10,none,(.seq ⟨[.ref 261]⟩ 0),⟨[]⟩⟩]
noncomputable def tr6 (p : Program) (P : Params) : BT:=insAll (setAll (tr5 p P) [(3,o3v5 p P)]) 227 (l6_0 p P)
noncomputable def o3v6 : PPO:=fun p P=>⟨.type z5,none,(.dict ⟨[en P zs25 165 (.str zs10 502),en P zs5 166 (.none),en P zs52 167 (.none),en P zs53 168 (.builtin z19),en P zs54 169 (.none),en P zs26 170 (.ref 6),en P zs55 171 (.ref 4),en P zs56 173 (.str zs0 172),en P zs57 174 (.none),en P zs22 193 (.ref 21),en P zs38 197 (.str zs58 196),en P zs39 200 (.str zs59 199),en P zs40 202 (.str zs60 201),en P zs41 206 (.str zs61 205),en P zs42 209 (.str zs62 208),en P zs43 211 (.str zs63 210),en P zs44 213 (.int 4000 212),en P zs64 235 (.ref 22),en P zs15 275 (.ref 46),en P zs18 287 (.ref 57),en P zs16 325 (.ref 82),en P zs17 341 (.ref 95),en P zs19 501 (.ref 222),en P zs77 505 (.int 127 504),en P zs80 576 (.ref 227),en P zs24 831 (.ref 428)]⟩ 26),⟨[]⟩⟩
noncomputable def o12v4 : PPO:=fun p P=>⟨.none,none,(.fields ⟨[.int 1 0,.int 0 0,.ref 20,.int 13 0,.int 0 0,.ref 28,.int 22 0,.int 0 0,.ref 56,.int 31 0,.int 0 0,.ref 63,.int 42 0,.int 0 0,.ref 91,.int 44 0,.int 0 0,.ref 103,.int 144 0,.int 0 0,.ref 268]⟩),⟨[]⟩⟩
def l7_0 (p : Program) (P : Params) : List Obj:=[⟨.type z10,none,(.seq ⟨[]⟩ 0),⟨[]⟩⟩,⟨.type z2,none,(.fields ⟨[.builtin z0,.type z8]⟩),⟨[]⟩⟩,⟨.type z5,none,(.dict ⟨[en P zs4 584 (.str zs10 502),en P zs14 586 (.str zs24 585),en P zs6 588 (.int 144 587),en P zs2 596 (.ref 276),en P (S 4 0x656e6f6e) 614 (.ref 285),en P (S 5 0x7972657665) 632 (.ref 295),en P (S 3 0x746f64) 650 (.ref 305),en P (S 2 0x666f) 668 (.ref 313),en P zs45 688 (.ref 323),en P zs85 713 (.ref 333),en P (S 3 0x736168) 726 (.ref 341),en P (S 4 0x657a6973) 733 (.ref 348),en P (S 5 0x7365646f63) 743 (.ref 355),en P (S 5 0x747361656c) 750 (.ref 362),en P zs113 757 (.ref 369),en P (S 5 0x6e6f696e75) 765 (.ref 376),en P (S 4 0x7465656d) 773 (.ref 383),en P zs114 784 (.ref 390),en P (S 5 0x73756e696d) 792 (.ref 397),en P (S 4 0x656d6173) 800 (.ref 404),en P (S 5 0x737465656d) 808 (.ref 411),en P (S 6 0x6465646c6f66) 815 (.ref 418),en P (S 3 0x79656b) 822 (.ref 425),en P zs7 824 (.ref 426)]⟩ 24),⟨[]⟩⟩,⟨.type z10,none,(.seq ⟨[]⟩ 0),⟨[]⟩⟩,⟨.none,none,(.fields ⟨[.int 146 0,.int 4 0,.ref 275,.int 150 0,.int 4 0,.ref 282,.int 154 0,.int 4 0,.ref 292,.int 158 0,.int 4 0,.ref 302,.int 162 0,.int 4 0,.ref 310,.int 166 0,.int 4 0,.ref 320,.int 170 0,.int 4 0,.ref 330,.int 186 0,.int 4 0,.ref 340,.int 200 0,.int 4 0,.ref 347,.int 203 0,.int 4 0,.ref 354,.int 209 0,.int 4 0,.ref 361,.int 214 0,.int 4 0,.ref 368,.int 217 0,.int 4 0,.ref 375,.int 220 0,.int 4 0,.ref 382,.int 223 0,.int 4 0,.ref 389,.int 234 0,.int 4 0,.ref 396,.int 237 0,.int 4 0,.ref 403,.int 240 0,.int 4 0,.ref 410,.int 243 0,.int 4 0,.ref 417,.int 246 0,.int 4 0,.ref 424]⟩),⟨[]⟩⟩,⟨.type z15,none,(.fields ⟨[.str zs24 579,.str zs24 580,.str zs0 581,.int 144 0,.int 0 0,.int 0 0,.int 0 0,.int 0 0,.ref 266,.bool false,.int 181 0,.ref 267,.none,.none,.none,.none,.int 582 0,.int 144 0,.str zs0 583]⟩),⟨[]⟩⟩,⟨.type z18,none,.plain,⟨[some (.ref 268),some (.ref 3),some (.ref 265),none,some (.str zs10 502),none,some (.ref 0)]⟩⟩,⟨.type z10,none,(.seq ⟨[]⟩ 0),⟨[]⟩⟩,⟨.none,none,(.fields ⟨[]⟩),⟨[]⟩⟩,⟨.type z10,none,(.seq ⟨[.str zs3 592,.str (S 5 0x736e617073) 593]⟩ 0),⟨[]⟩⟩,⟨.type z10,none,(.seq ⟨[]⟩ 0),⟨[]⟩⟩,⟨.none,none,(.func ⟨zs2,zs131,dA p 18 0,.stmts (dB p 18 0),dS p 18 0,0,[],.none,.none,.none,.none,none,.none,.none,0⟩),⟨[]⟩⟩,⟨.type z15,none,(.fields ⟨[.str zs2 589,.str zs131 590,.str zs0 591,.int 146 0,.int 2 0,.int 0 0,.int 0 0,.int 3 0,.ref 270,.bool true,.int 181 0,.ref 271,.none,.ref 272,.ref 273,.ref 274,.int 594 0,.int 146 0,.str zs0 595]⟩),⟨[]⟩⟩,⟨.type z20,none,(.func ⟨zs2,zs131,dA p 18 0,.stmts (dB p 18 0),dS p 18 0,3,[],.none,.none,.none,.str zs10 502,none,.ref 275,.none,0⟩),⟨[]⟩⟩,⟨.type z10,none,(.seq ⟨[]⟩ 0),⟨[]⟩⟩,⟨.none,none,(.fields ⟨[]⟩),⟨[]⟩⟩,⟨.type z10,none,(.seq ⟨[]⟩ 0),⟨[]⟩⟩,⟨.type z10,none,(.seq ⟨[]⟩ 0),⟨[]⟩⟩,⟨.none,none,(.func ⟨S 4 0x656e6f6e,zs151,dA p 18 1,.stmts (dB p 18 1),dS p 18 1,0,[],.none,.none,.none,.none,none,.none,.none,0⟩),⟨[]⟩⟩,⟨.type z15,none,(.fields ⟨[.str (S 4 0x656e6f6e) 597,.str zs151 598,.str zs0 599,.int 149 0,.int 0 0,.int 0 0,.int 0 0,.int 3 0,.ref 277,.bool true,.int 181 0,.ref 278,.none,.ref 279,.ref 280,.ref 281,.int 600 0,.int 149 0,.str zs0 601]⟩),⟨[]⟩⟩,⟨.type z20,none,(.func ⟨S 4 0x656e6f6e,zs151,dA p 18 1,.stmts (dB p 18 1),dS p 18 1,3,[],.none,.none,.none,.str zs10 502,(some 286),.ref 282,.none,0⟩),⟨[]⟩⟩,⟨.type z5,none,(.dict ⟨[en P zs4 603 (.str zs10 502),en P zs25 606 (.str (S 4 0x656e6f6e) 605),en P zs14 609 (.str zs151 608),en P zs5 611 (.none),en P zs26 613 (.ref 286)]⟩ 5),⟨[]⟩⟩,⟨.type z7,(some 284),(.fields ⟨[.ref 283,.bool false]⟩),⟨[]⟩⟩,⟨.type z5,none,(.dict ⟨[]⟩ 0),⟨[]⟩⟩,⟨.type z10,none,(.seq ⟨[]⟩ 0),⟨[]⟩⟩,⟨.none,none,(.fields ⟨[]⟩),⟨[]⟩⟩,⟨.type z10,none,(.seq ⟨[]⟩ 0),⟨[]⟩⟩,⟨.type z10,none,(.seq ⟨[]⟩ 0),⟨[]⟩⟩,⟨.none,none,(.func ⟨S 5 0x7972657665,zs152,dA p 18 2,.stmts (dB p 18 2),dS p 18 2,0,[],.none,.none,.none,.none,none,.none,.none,0⟩),⟨[]⟩⟩,⟨.type z15,none,(.fields ⟨[.str (S 5 0x7972657665) 615,.str zs152 616,.str zs0 617,.int 153 0,.int 0 0,.int 0 0,.int 0 0,.int 3 0,.ref 287,.bool true,.int 181 0,.ref 288,.none,.ref 289,.ref 290,.ref 291,.int 618 0,.int 153 0,.str zs0 619]⟩),⟨[]⟩⟩,⟨.type z20,none,(.func ⟨S 5 0x7972657665,zs152,dA p 18 2,.stmts (dB p 18 2),dS p 18 2,3,[],.none,.none,.none,.str zs10 502,(some 296),.ref 292,.none,0⟩),⟨[]⟩⟩,⟨.type z5,none,(.dict ⟨[en P zs4 621 (.str zs10 502),en P zs25 624 (.str (S 5 0x7972657665) 623),en P zs14 627 (.str zs152 626),en P zs5 629 (.none),en P zs26 631 (.ref 296)]⟩ 5),⟨[]⟩⟩,⟨.type z7,(some 294),(.fields ⟨[.ref 293,.bool false]⟩),⟨[]⟩⟩,⟨.type z5,none,(.dict ⟨[]⟩ 0),⟨[]⟩⟩,⟨.type z10,none,(.seq ⟨[]⟩ 0),⟨[]⟩⟩,⟨.none,none,(.fields ⟨[]⟩),⟨[]⟩⟩,⟨.type z10,none,(.seq ⟨[]⟩ 0),⟨[]⟩⟩,⟨.type z10,none,(.seq ⟨[]⟩ 0),⟨[]⟩⟩,⟨.none,none,(.func ⟨S 3 0x746f64,zs153,dA p 18 3,.stmts (dB p 18 3),dS p 18 3,0,[],.none,.none,.none,.none,none,.none,.none,0⟩),⟨[]⟩⟩,⟨.type z15,none,(.fields ⟨[.str (S 3 0x746f64) 633,.str zs153 634,.str zs0 635,.int 157 0,.int 0 0,.int 0 0,.int 0 0,.int 3 0,.ref 297,.bool true,.int 181 0,.ref 298,.none,.ref 299,.ref 300,.ref 301,.int 636 0,.int 157 0,.str zs0 637]⟩),⟨[]⟩⟩,⟨.type z20,none,(.func ⟨S 3 0x746f64,zs153,dA p 18 3,.stmts (dB p 18 3),dS p 18 3,3,[],.none,.none,.none,.str zs10 502,(some 306),.ref 302,.none,0⟩),⟨[]⟩⟩,⟨.type z5,none,(.dict ⟨[en P zs4 639 (.str zs10 502),en P zs25 642 (.str (S 3 0x746f64) 641),en P zs14 645 (.str zs153 644),en P zs5 647 (.none),en P zs26 649 (.ref 306)]⟩ 5),⟨[]⟩⟩,⟨.type z7,(some 304),(.fields ⟨[.ref 303,.bool false]⟩),⟨[]⟩⟩,⟨.type z5,none,(.dict ⟨[]⟩ 0),⟨[]⟩⟩,⟨.type z10,none,(.seq ⟨[]⟩ 0),⟨[]⟩⟩,⟨.none,none,(.fields ⟨[]⟩),⟨[]⟩⟩,⟨.none,none,(.func ⟨S 2 0x666f,zs115,dA p 18 4,.stmts (dB p 18 4),dS p 18 4,0,[],.none,.none,.none,.none,none,.none,.none,0⟩),⟨[]⟩⟩,⟨.type z15,none,(.fields ⟨[.str (S 2 0x666f) 651,.str zs115 652,.str zs0 653,.int 161 0,.int 1 0,.int 0 0,.int 0 0,.int 3 0,.ref 307,.bool true,.int 181 0,.ref 308,.none,.none,.none,.ref 309,.int 654 0,.int 161 0,.str zs0 655]⟩),⟨[]⟩⟩,⟨.type z20,none,(.func ⟨S 2 0x666f,zs115,dA p 18 4,.stmts (dB p 18 4),dS p 18 4,3,[],.none,.none,.none,.str zs10 502,(some 314),.ref 310,.none,0⟩),⟨[]⟩⟩,⟨.type z5,none,(.dict ⟨[en P zs4 657 (.str zs10 502),en P zs25 660 (.str (S 2 0x666f) 659),en P zs14 663 (.str zs115 662),en P zs5 665 (.none),en P zs26 667 (.ref 314)]⟩ 5),⟨[]⟩⟩,⟨.type z7,(some 312),(.fields ⟨[.ref 311,.bool false]⟩),⟨[]⟩⟩,⟨.type z5,none,(.dict ⟨[]⟩ 0),⟨[]⟩⟩,⟨.type z10,none,(.seq ⟨[]⟩ 0),⟨[]⟩⟩,⟨.none,none,(.fields ⟨[]⟩),⟨[]⟩⟩,⟨.type z10,none,(.seq ⟨[.str (S 3 0x776f6c) 672,.str zs86 673]⟩ 0),⟨[]⟩⟩,⟨.type z10,none,(.seq ⟨[]⟩ 0),⟨[]⟩⟩,⟨.none,none,(.func ⟨zs45,zs116,dA p 18 5,.stmts (dB p 18 5),dS p 18 5,0,[],.none,.none,.none,.none,none,.none,.none,0⟩),⟨[]⟩⟩,⟨.type z15,none,(.fields ⟨[.str zs45 669,.str zs116 670,.str zs0 671,.int 165 0,.int 2 0,.int 0 0,.int 0 0,.int 3 0,.ref 315,.bool true,.int 181 0,.ref 316,.none,.ref 317,.ref 318,.ref 319,.int 674 0,.int 165 0,.str zs0 675]⟩),⟨[]⟩⟩,⟨.type z20,none,(.func ⟨zs45,zs116,dA p 18 5,.stmts (dB p 18 5),dS p 18 5,3,[],.none,.none,.none,.str zs10 502,(some 324),.ref 320,.none,0⟩),⟨[]⟩⟩,⟨.type z5,none,(.dict ⟨[en P zs4 677 (.str zs10 502),en P zs25 680 (.str zs45 679),en P zs14 683 (.str zs116 682),en P zs5 685 (.none),en P zs26 687 (.ref 324)]⟩ 5),⟨[]⟩⟩,⟨.type z7,(some 322),(.fields ⟨[.ref 321,.bool false]⟩),⟨[]⟩⟩,⟨.type z5,none,(.dict ⟨[]⟩ 0),⟨[]⟩⟩,⟨.type z10,none,(.seq ⟨[]⟩ 0),⟨[]⟩⟩,⟨.none,none,(.fields ⟨[]⟩),⟨[]⟩⟩,⟨.type z10,none,(.seq ⟨[.str (S 5 0x7372696170) 692,.str (S 4 0x7470656b) 693,.str (S 5 0x7473726966) 694,.str (S 4 0x7473616c) 695,.str (S 3 0x776f6c) 696,.str zs86 697,.str (S 5 0x736e617073) 698]⟩ 0),⟨[]⟩⟩,⟨.type z10,none,(.seq ⟨[]⟩ 0),⟨[]⟩⟩,⟨.none,none,(.func ⟨zs85,zs117,dA p 18 6,.stmts (dB p 18 6),dS p 18 6,0,[],.none,.none,.none,.none,none,.none,.none,0⟩),⟨[]⟩⟩,⟨.type z15,none,(.fields ⟨[.str zs85 689,.str zs117 690,.str zs0 691,.int 169 0,.int 1 0,.int 0 0,.int 0 0,.int 3 0,.ref 325,.bool true,.int 181 0,.ref 326,.none,.ref 327,.ref 328,.ref 329,.int 699 0,.int 169 0,.str zs0 700]⟩),⟨[]⟩⟩,⟨.type z20,none,(.func ⟨zs85,zs117,dA p 18 6,.stmts (dB p 18 6),dS p 18 6,3,[],.none,.none,.none,.str zs10 502,(some 334),.ref 330,.none,0⟩),⟨[]⟩⟩,⟨.type z5,none,(.dict ⟨[en P zs4 702 (.str zs10 502),en P zs25 705 (.str zs85 704),en P zs14 708 (.str zs117 707),en P zs5 710 (.none),en P zs26 712 (.ref 334)]⟩ 5),⟨[]⟩⟩,⟨.type z7,(some 332),(.fields ⟨[.ref 331,.bool false]⟩),⟨[]⟩⟩,⟨.type z5,none,(.dict ⟨[]⟩ 0),⟨[]⟩⟩,⟨.type z10,none,(.seq ⟨[]⟩ 0),⟨[]⟩⟩,⟨.none,none,(.fields ⟨[]⟩),⟨[]⟩⟩,⟨.type z10,none,(.seq ⟨[.str zs3 717,.str (S 4 0x65646f63) 718,.str (S 4 0x7466656c) 719,.str (S 5 0x7468676972) 720,.str (S 6 0x656c6464696d) 721,.str (S 3 0x776f6c) 722,.str zs86 723]⟩ 0),⟨[]⟩⟩,⟨.type z10,none,(.seq ⟨[]⟩ 0),⟨[]⟩⟩,⟨.none,none,(.func ⟨S 3 0x736168,S 11 0x7361682e74655372616843,dA p 18 7,.stmts (dB p 18 7),dS p 18 7,0,[],.none,.none,.none,.none,none,.none,.none,0⟩),⟨[]⟩⟩,⟨.type z15,none,(.fields ⟨[.str (S 3 0x736168) 714,.str (S 11 0x7361682e74655372616843) 715,.str zs0 716,.int 186 0,.int 2 0,.int 0 0,.int 0 0,.int 3 0,.ref 335,.bool true,.int 181 0,.ref 336,.none,.ref 337,.ref 338,.ref 339,.int 724 0,.int 186 0,.str zs0 725]⟩),⟨[]⟩⟩,⟨.type z20,none,(.func ⟨S 3 0x736168,S 11 0x7361682e74655372616843,dA p 18 7,.stmts (dB p 18 7),dS p 18 7,3,[],.none,.none,.none,.str zs10 502,none,.ref 340,.none,0⟩),⟨[]⟩⟩,⟨.type z10,none,(.seq ⟨[]⟩ 0),⟨[]⟩⟩,⟨.none,none,(.fields ⟨[]⟩),⟨[]⟩⟩,⟨.type z10,none,(.seq ⟨[.str zs3 730]⟩ 0),⟨[]⟩⟩,⟨.type z10,none,(.seq ⟨[]⟩ 0),⟨[]⟩⟩,⟨.none,none,(.func ⟨S 4 0x657a6973,S 12 0x657a69732e74655372616843,dA p 18 8,.stmts (dB p 18 8),dS p 18 8,0,[],.none,.none,.none,.none,none,.none,.none,0⟩),⟨[]⟩⟩,⟨.type z15,none,(.fields ⟨[.str (S 4 0x657a6973) 727,.str (S 12 0x657a69732e74655372616843) 728,.str zs0 729,.int 200 0,.int 1 0,.int 0 0,.int 0 0,.int 3 0,.ref 342,.bool true,.int 181 0,.ref 343,.none,.ref 344,.ref 345,.ref 346,.int 731 0,.int 200 0,.str zs0 732]⟩),⟨[]⟩⟩,⟨.type z20,none,(.func ⟨S 4 0x657a6973,S 12 0x657a69732e74655372616843,dA p 18 8,.stmts (dB p 18 8),dS p 18 8,3,[],.none,.none,.none,.str zs10 502,none,.ref 347,.none,0⟩),⟨[]⟩⟩,⟨.type z10,none,(.seq ⟨[]⟩ 0),⟨[]⟩⟩,⟨.none,none,(.fields ⟨[]⟩),⟨[]⟩⟩,⟨.type z10,none,(.seq ⟨[.str zs3 737,.str (S 5 0x646e756f66) 738,.str (S 3 0x776f6c) 739,.str zs86 740]⟩ 0),⟨[]⟩⟩,⟨.type z10,none,(.seq ⟨[]⟩ 0),⟨[]⟩⟩,⟨.none,none,(.func ⟨S 5 0x7365646f63,S 13 0x7365646f632e74655372616843,dA p 18 9,.stmts (dB p 18 9),dS p 18 9,0,[],.none,.none,.none,.none,none,.none,.none,0⟩),⟨[]⟩⟩,⟨.type z15,none,(.fields ⟨[.str (S 5 0x7365646f63) 734,.str (S 13 0x7365646f632e74655372616843) 735,.str zs0 736,.int 203 0,.int 1 0,.int 0 0,.int 0 0,.int 3 0,.ref 349,.bool true,.int 181 0,.ref 350,.none,.ref 351,.ref 352,.ref 353,.int 741 0,.int 203 0,.str zs0 742]⟩),⟨[]⟩⟩,⟨.type z20,none,(.func ⟨S 5 0x7365646f63,S 13 0x7365646f632e74655372616843,dA p 18 9,.stmts (dB p 18 9),dS p 18 9,3,[],.none,.none,.none,.str zs10 502,none,.ref 354,.none,0⟩),⟨[]⟩⟩,⟨.type z10,none,(.seq ⟨[]⟩ 0),⟨[]⟩⟩,⟨.none,none,(.fields ⟨[]⟩),⟨[]⟩⟩,⟨.type z10,none,(.seq ⟨[.str zs3 747]⟩ 0),⟨[]⟩⟩,⟨.type z10,none,(.seq ⟨[]⟩ 0),⟨[]⟩⟩,⟨.none,none,(.func ⟨S 5 0x747361656c,S 13 0x747361656c2e74655372616843,dA p 18 10,.stmts (dB p 18 10),dS p 18 10,0,[],.none,.none,.none,.none,none,.none,.none,0⟩),⟨[]⟩⟩,⟨.type z15,none,(.fields ⟨[.str (S 5 0x747361656c) 744,.str (S 13 0x747361656c2e74655372616843) 745,.str zs0 746,.int 209 0,.int 1 0,.int 0 0,.int 0 0,.int 3 0,.ref 356,.bool true,.int 181 0,.ref 357,.none,.ref 358,.ref 359,.ref 360,.int 748 0,.int 209 0,.str zs0 749]⟩),⟨[]⟩⟩,⟨.type z20,none,(.func ⟨S 5 0x747361656c,S 13 0x747361656c2e74655372616843,dA p 18 10,.stmts (dB p 18 10),dS p 18 10,3,[],.none,.none,.none,.str zs10 502,none,.ref 361,.none,0⟩),⟨[]⟩⟩,⟨.type z10,none,(.seq ⟨[]⟩ 0),⟨[]⟩⟩,⟨.none,none,(.fields ⟨[]⟩),⟨[]⟩⟩,⟨.type z10,none,(.seq ⟨[.str zs3 754]⟩ 0),⟨[]⟩⟩,⟨.type z10,none,(.seq ⟨[]⟩ 0),⟨[]⟩⟩,⟨.none,none,(.func ⟨zs113,S 16 0x7974706d655f73692e74655372616843,dA p 18 11,.stmts (dB p 18 11),dS p 18 11,0,[],.none,.none,.none,.none,none,.none,.none,0⟩),⟨[]⟩⟩,⟨.type z15,none,(.fields ⟨[.str zs113 751,.str (S 16 0x7974706d655f73692e74655372616843) 752,.str zs0 753,.int 214 0,.int 1 0,.int 0 0,.int 0 0,.int 3 0,.ref 363,.bool true,.int 181 0,.ref 364,.none,.ref 365,.ref 366,.ref 367,.int 755 0,.int 214 0,.str zs0 756]⟩),⟨[]⟩⟩,⟨.type z20,none,(.func ⟨zs113,S 16 0x7974706d655f73692e74655372616843,dA p 18 11,.stmts (dB p 18 11),dS p 18 11,3,[],.none,.none,.none,.str zs10 502,none,.ref 368,.none,0⟩),⟨[]⟩⟩,⟨.type z10,none,(.seq ⟨[]⟩ 0),⟨[]⟩⟩,⟨.none,none,(.fields ⟨[]⟩),⟨[]⟩⟩,⟨.type z10,none,(.seq ⟨[.str zs3 761,.str (S 5 0x726568746f) 762]⟩ 0),⟨[]⟩⟩,⟨.type z10,none,(.seq ⟨[]⟩ 0),⟨[]⟩⟩,⟨.none,none,(.func ⟨S 5 0x6e6f696e75,S 13 0x6e6f696e752e74655372616843,dA p 18 12,.stmts (dB p 18 12),dS p 18 12,0,[],.none,.none,.none,.none,none,.none,.none,0⟩),⟨[]⟩⟩,⟨.type z15,none,(.fields ⟨[.str (S 5 0x6e6f696e75) 758,.str (S 13 0x6e6f696e752e74655372616843) 759,.str zs0 760,.int 217 0,.int 2 0,.int 0 0,.int 0 0,.int 3 0,.ref 370,.bool true,.int 181 0,.ref 371,.none,.ref 372,.ref 373,.ref 374,.int 763 0,.int 217 0,.str zs0 764]⟩),⟨[]⟩⟩,⟨.type z20,none,(.func ⟨S 5 0x6e6f696e75,S 13 0x6e6f696e752e74655372616843,dA p 18 12,.stmts (dB p 18 12),dS p 18 12,3,[],.none,.none,.none,.str zs10 502,none,.ref 375,.none,0⟩),⟨[]⟩⟩,⟨.type z10,none,(.seq ⟨[]⟩ 0),⟨[]⟩⟩,⟨.none,none,(.fields ⟨[]⟩),⟨[]⟩⟩,⟨.type z10,none,(.seq ⟨[.str zs3 769,.str (S 5 0x726568746f) 770]⟩ 0),⟨[]⟩⟩,⟨.type z10,none,(.seq ⟨[]⟩ 0),⟨[]⟩⟩,⟨.none,none,(.func ⟨S 4 0x7465656d,S 12 0x7465656d2e74655372616843,dA p 18 13,.stmts (dB p 18 13),dS p 18 13,0,[],.none,.none,.none,.none,none,.none,.none,0⟩),⟨[]⟩⟩,⟨.type z15,none,(.fields ⟨[.str (S 4 0x7465656d) 766,.str (S 12 0x7465656d2e74655372616843) 767,.str zs0 768,.int 220 0,.int 2 0,.int 0 0,.int 0 0,.int 3 0,.ref 377,.bool true,.int 181 0,.ref 378,.none,.ref 379,.ref 380,.ref 381,.int 771 0,.int 220 0,.str zs0 772]⟩),⟨[]⟩⟩,⟨.type z20,none,(.func ⟨S 4 0x7465656d,S 12 0x7465656d2e74655372616843,dA p 18 13,.stmts (dB p 18 13),dS p 18 13,3,[],.none,.none,.none,.str zs10 502,none,.ref 382,.none,0⟩),⟨[]⟩⟩,⟨.type z10,none,(.seq ⟨[]⟩ 0),⟨[]⟩⟩,⟨.none,none,(.fields ⟨[]⟩),⟨[]⟩⟩,⟨.type z10,none,(.seq ⟨[.str zs3 777,.str (S 5 0x736e617073) 778,.str (S 5 0x6e69676562) 779,.str (S 3 0x776f6c) 780,.str zs86 781]⟩ 0),⟨[]⟩⟩,⟨.type z10,none,(.seq ⟨[]⟩ 0),⟨[]⟩⟩,⟨.none,none,(.func ⟨zs114,S 18 0x746e656d656c706d6f632e74655372616843,dA p 18 14,.stmts (dB p 18 14),dS p 18 14,0,[],.none,.none,.none,.none,none,.none,.none,0⟩),⟨[]⟩⟩,⟨.type z15,none,(.fields ⟨[.str zs114 774,.str (S 18 0x746e656d656c706d6f632e74655372616843) 775,.str zs0 776,.int 223 0,.int 1 0,.int 0 0,.int 0 0,.int 3 0,.ref 384,.bool true,.int 181 0,.ref 385,.none,.ref 386,.ref 387,.ref 388,.int 782 0,.int 223 0,.str zs0 783]⟩),⟨[]⟩⟩,⟨.type z20,none,(.func ⟨zs114,S 18 0x746e656d656c706d6f632e74655372616843,dA p 18 14,.stmts (dB p 18 14),dS p 18 14,3,[],.none,.none,.none,.str zs10 502,none,.ref 389,.none,0⟩),⟨[]⟩⟩,⟨.type z10,none,(.seq ⟨[]⟩ 0),⟨[]⟩⟩,⟨.none,none,(.fields ⟨[]⟩),⟨[]⟩⟩,⟨.type z10,none,(.seq ⟨[.str zs3 788,.str (S 5 0x726568746f) 789]⟩ 0),⟨[]⟩⟩,⟨.type z10,none,(.seq ⟨[]⟩ 0),⟨[]⟩⟩,⟨.none,none,(.func ⟨S 5 0x73756e696d,S 13 0x73756e696d2e74655372616843,dA p 18 15,.stmts (dB p 18 15),dS p 18 15,0,[],.none,.none,.none,.none,none,.none,.none,0⟩),⟨[]⟩⟩,⟨.type z15,none,(.fields ⟨[.str (S 5 0x73756e696d) 785,.str (S 13 0x73756e696d2e74655372616843) 786,.str zs0 787,.int 234 0,.int 2 0,.int 0 0,.int 0 0,.int 3 0,.ref 391,.bool true,.int 181 0,.ref 392,.none,.ref 393,.ref 394,.ref 395,.int 790 0,.int 234 0,.str zs0 791]⟩),⟨[]⟩⟩,⟨.type z20,none,(.func ⟨S 5 0x73756e696d,S 13 0x73756e696d2e74655372616843,dA p 18 15,.stmts (dB p 18 15),dS p 18 15,3,[],.none,.none,.none,.str zs10 502,none,.ref 396,.none,0⟩),⟨[]⟩⟩,⟨.type z10,none,(.seq ⟨[]⟩ 0),⟨[]⟩⟩,⟨.none,none,(.fields ⟨[]⟩),⟨[]⟩⟩,⟨.type z10,none,(.seq ⟨[.str zs3 796,.str (S 5 0x726568746f) 797]⟩ 0),⟨[]⟩⟩,⟨.type z10,none,(.seq ⟨[]⟩ 0),⟨[]⟩⟩,⟨.none,none,(.func ⟨S 4 0x656d6173,S 12 0x656d61732e74655372616843,dA p 18 16,.stmts (dB p 18 16),dS p 18 16,0,[],.none,.none,.none,.none,none,.none,.none,0⟩),⟨[]⟩⟩,⟨.type z15,none,(.fields ⟨[.str (S 4 0x656d6173) 793,.str (S 12 0x656d61732e74655372616843) 794,.str zs0 795,.int 237 0,.int 2 0,.int 0 0,.int 0 0,.int 3 0,.ref 398,.bool true,.int 181 0,.ref 399,.none,.ref 400,.ref 401,.ref 402,.int 798 0,.int 237 0,.str zs0 799]⟩),⟨[]⟩⟩,⟨.type z20,none,(.func ⟨S 4 0x656d6173,S 12 0x656d61732e74655372616843,dA p 18 16,.stmts (dB p 18 16),dS p 18 16,3,[],.none,.none,.none,.str zs10 502,none,.ref 403,.none,0⟩),⟨[]⟩⟩,⟨.type z10,none,(.seq ⟨[]⟩ 0),⟨[]⟩⟩,⟨.none,none,(.fields ⟨[]⟩),⟨[]⟩⟩,⟨.type z10,none,(.seq ⟨[.str zs3 804,.str (S 5 0x726568746f) 805]⟩ 0),⟨[]⟩⟩,⟨.type z10,none,(.seq ⟨[]⟩ 0),⟨[]⟩⟩,⟨.none,none,(.func ⟨S 5 0x737465656d,S 13 0x737465656d2e74655372616843,dA p 18 17,.stmts (dB p 18 17),dS p 18 17,0,[],.none,.none,.none,.none,none,.none,.none,0⟩),⟨[]⟩⟩,⟨.type z15,none,(.fields ⟨[.str (S 5 0x737465656d) 801,.str (S 13 0x737465656d2e74655372616843) 802,.str zs0 803,.int 240 0,.int 2 0,.int 0 0,.int 0 0,.int 3 0,.ref 405,.bool true,.int 181 0,.ref 406,.none,.ref 407,.ref 408,.ref 409,.int 806 0,.int 240 0,.str zs0 807]⟩),⟨[]⟩⟩,⟨.type z20,none,(.func ⟨S 5 0x737465656d,S 13 0x737465656d2e74655372616843,dA p 18 17,.stmts (dB p 18 17),dS p 18 17,3,[],.none,.none,.none,.str zs10 502,none,.ref 410,.none,0⟩),⟨[]⟩⟩,⟨.type z10,none,(.seq ⟨[]⟩ 0),⟨[]⟩⟩,⟨.none,none,(.fields ⟨[]⟩),⟨[]⟩⟩,⟨.type z10,none,(.seq ⟨[.str zs3 812]⟩ 0),⟨[]⟩⟩,⟨.type z10,none,(.seq ⟨[]⟩ 0),⟨[]⟩⟩,⟨.none,none,(.func ⟨S 6 0x6465646c6f66,S 14 0x6465646c6f662e74655372616843,dA p 18 18,.stmts (dB p 18 18),dS p 18 18,0,[],.none,.none,.none,.none,none,.none,.none,0⟩),⟨[]⟩⟩,⟨.type z15,none,(.fields ⟨[.str (S 6 0x6465646c6f66) 809,.str (S 14 0x6465646c6f662e74655372616843) 810,.str zs0 811,.int 243 0,.int 1 0,.int 0 0,.int 0 0,.int 3 0,.ref 412,.bool true,.int 181 0,.ref 413,.none,.ref 414,.ref 415,.ref 416,.int 813 0,.int 243 0,.str zs0 814]⟩),⟨[]⟩⟩,⟨.type z20,none,(.func ⟨S 6 0x6465646c6f66,S 14 0x6465646c6f662e74655372616843,dA p 18 18,.stmts (dB p 18 18),dS p 18 18,3,[],.none,.none,.none,.str zs10 502,none,.ref 417,.none,0⟩),⟨[]⟩⟩,⟨.type z10,none,(.seq ⟨[]⟩ 0),⟨[]⟩⟩,⟨.none,none,(.fields ⟨[]⟩),⟨[]⟩⟩,⟨.type z10,none,(.seq ⟨[.str zs3 819]⟩ 0),⟨[]⟩⟩,⟨.type z10,none,(.seq ⟨[]⟩ 0),⟨[]⟩⟩,⟨.none,none,(.func ⟨S 3 0x79656b,zs132,dA p 18 19,.stmts (dB p 18 19),dS p 18 19,0,[],.none,.none,.none,.none,none,.none,.none,0⟩),⟨[]⟩⟩,⟨.type z15,none,(.fields ⟨[.str (S 3 0x79656b) 816,.str zs132 817,.str zs0 818,.int 246 0,.int 1 0,.int 0 0,.int 0 0,.int 3 0,.ref 419,.bool true,.int 181 0,.ref 420,.none,.ref 421,.ref 422,.ref 423,.int 820 0,.int 246 0,.str zs0 821]⟩),⟨[]⟩⟩,⟨.type z20,none,(.func ⟨S 3 0x79656b,zs132,dA p 18 19,.stmts (dB p 18 19),dS p 18 19,3,[],.none,.none,.none,.str zs10 502,none,.ref 424,.none,0⟩),⟨[]⟩⟩,⟨.type z10,none,(.seq ⟨[.str (S 5 0x736e617073) 823]⟩ 0),⟨[]⟩⟩,⟨.type z5,none,(.dict ⟨[en P zs4 584 (.str zs10 502),en P zs6 588 (.int 144 587),en P zs2 596 (.ref 276),en P (S 4 0x656e6f6e) 614 (.ref 285),en P (S 5 0x7972657665) 632 (.ref 295),en P (S 3 0x746f64) 650 (.ref 305),en P (S 2 0x666f) 668 (.ref 313),en P zs45 688 (.ref 323),en P zs85 713 (.ref 333),en P (S 3 0x736168) 726 (.ref 341),en P (S 4 0x657a6973) 733 (.ref 348),en P (S 5 0x7365646f63) 743 (.ref 355),en P (S 5 0x747361656c) 750 (.ref 362),en P zs113 757 (.ref 369),en P (S 5 0x6e6f696e75) 765 (.ref 376),en P (S 4 0x7465656d) 773 (.ref 383),en P zs114 784 (.ref 390),en P (S 5 0x73756e696d) 792 (.ref 397),en P (S 4 0x656d6173) 800 (.ref 404),en P (S 5 0x737465656d) 808 (.ref 411),en P (S 6 0x6465646c6f66) 815 (.ref 418),en P (S 3 0x79656b) 822 (.ref 425),en P zs7 824 (.ref 426),en P zs30 826 (.ref 429),en P zs23 828 (.ref 430),en P zs5 829 (.none)]⟩ 4),⟨[]⟩⟩,⟨.type z8,none,(.cls ⟨zs24,[.type z9],[.ref 428,.type z9],427,zs24,true,[],[],false,none,false⟩),⟨[none,none,some (.str zs24 577),some (.str zs24 585),some (.builtin z3),some (.bool true)]⟩⟩,⟨.type z6,none,(.fields ⟨[.str zs30 825,.ref 428,.builtin z17,.builtin z4]⟩),⟨[]⟩⟩,⟨.type z6,none,(.fields ⟨[.str zs23 827,.ref 428,.builtin z1,.none]⟩),⟨[]⟩⟩,⟨.type z12,none,(.fields ⟨[.ref 428,.ref 428,.ref 428]⟩),⟨[]⟩⟩,⟨.type z2,none,(.fields ⟨[.builtin z13,.ref 428]⟩),⟨[]⟩⟩]
noncomputable def tr7 (p : Program) (P : Params) : BT:=insAll (setAll (tr6 p P) [(3,o3v6 p P),(12,o12v4 p P)]) 263 (l7_0 p P)
noncomputable def o3v7 : PPO:=fun p P=>⟨.type z5,none,(.dict ⟨[en P zs25 165 (.str zs1 840),en P zs5 166 (.none),en P zs52 167 (.none),en P zs53 168 (.builtin z19),en P zs54 169 (.none),en P zs26 170 (.ref 6),en P zs55 171 (.ref 4),en P zs56 173 (.str zs0 172),en P zs57 174 (.none),en P zs22 193 (.ref 21),en P zs38 197 (.str zs58 196),en P zs39 200 (.str zs59 199),en P zs40 202 (.str zs60 201),en P zs41 206 (.str zs61 205),en P zs42 209 (.str zs62 208),en P zs43 211 (.str zs63 210),en P zs44 213 (.int 4000 212),en P zs64 235 (.ref 22),en P zs15 275 (.ref 46),en P zs18 287 (.ref 57),en P zs16 325 (.ref 82),en P zs17 341 (.ref 95),en P zs19 501 (.ref 222),en P zs77 505 (.int 127 504),en P zs80 576 (.ref 227),en P zs24 831 (.ref 428),en P zs46 839 (.ref 439),en P zs87 843 (.int 40 842),en P zs88 845 (.int 20 844),en P zs89 847 (.int 0 846),en P (S 3 0x574f52) 849 (.int 1 848),en P zs90 851 (.int 2 850),en P zs91 853 (.str (S 3 0xa0920) 852),en P zs92 855 (.str zs99 854),en P zs93 857 (.str (S 1 0xa) 856),en P zs12 893 (.ref 463),en P zs27 911 (.ref 477)]⟩ 37),⟨[]⟩⟩
noncomputable def o12v5 : PPO:=fun p P=>⟨.none,none,(.fields ⟨[.int 1 0,.int 0 0,.ref 20,.int 13 0,.int 0 0,.ref 28,.int 22 0,.int 0 0,.ref 56,.int 31 0,.int 0 0,.ref 63,.int 42 0,.int 0 0,.ref 91,.int 44 0,.int 0 0,.ref 103,.int 144 0,.int 0 0,.ref 268,.int 248 0,.int 0 0,.ref 438,.int 262 0,.int 0 0,.ref 445,.int 270 0,.int 0 0,.ref 473]⟩),⟨[]⟩⟩
noncomputable def o463 : PPO:=fun p P=>⟨.type z8,none,(.cls ⟨zs12,[.type z9],[.ref 463,.type z9],462,zs12,true,[],[.ref 477],false,none,false⟩),⟨[none,none,some (.str zs12 858),some (.str zs12 866),some (.builtin z3),some (.bool true)]⟩⟩
def l8_0 (p : Program) (P : Params) : List Obj:=[⟨.type z10,none,(.seq ⟨[]⟩ 0),⟨[]⟩⟩,⟨.none,none,(.fields ⟨[]⟩),⟨[]⟩⟩,⟨.type z10,none,(.seq ⟨[.str zs11 835,.str (S 5 0x736e617073) 836]⟩ 0),⟨[]⟩⟩,⟨.type z10,none,(.seq ⟨[]⟩ 0),⟨[]⟩⟩,⟨.none,none,(.func ⟨zs46,zs46,dA p 19 1000,.stmts (dB p 19 1000),dS p 19 1000,0,[],.none,.none,.none,.none,none,.none,.none,0⟩),⟨[]⟩⟩,⟨.type z15,none,(.fields ⟨[.str zs46 832,.str zs46 833,.str zs0 834,.int 248 0,.int 1 0,.int 0 0,.int 0 0,.int 3 0,.ref 433,.bool true,.int 181 0,.ref 434,.none,.ref 435,.ref 436,.ref 437,.int 837 0,.int 248 0,.str zs0 838]⟩),⟨[]⟩⟩,⟨.type z20,none,(.func ⟨zs46,zs46,dA p 19 1000,.stmts (dB p 19 1000),dS p 19 1000,3,[],.none,.none,.none,.str zs10 502,none,.ref 438,.none,0⟩),⟨[]⟩⟩,⟨.type z10,none,(.seq ⟨[]⟩ 0),⟨[]⟩⟩,⟨.type z2,none,(.fields ⟨[.builtin z0,.type z8]⟩),⟨[]⟩⟩,⟨.type z5,none,(.dict ⟨[en P zs4 865 (.str zs1 840),en P zs14 867 (.str zs12 866),en P zs6 869 (.int 262 868),en P zs11 871 (.str zs94 870),en P zs28 878 (.ref 453),en P zs8 885 (.ref 460),en P zs7 886 (.ref 461)]⟩ 7),⟨[]⟩⟩,⟨.type z10,none,(.seq ⟨[]⟩ 0),⟨[]⟩⟩,⟨.none,none,(.fields ⟨[.int 265 0,.int 4 0,.ref 452,.int 268 0,.int 4 0,.ref 459]⟩),⟨[]⟩⟩,⟨.type z15,none,(.fields ⟨[.str zs12 860,.str zs12 861,.str zs0 862,.int 262 0,.int 0 0,.int 0 0,.int 0 0,.int 0 0,.ref 443,.bool false,.int 181 0,.ref 444,.none,.none,.none,.none,.int 863 0,.int 262 0,.str zs0 864]⟩),⟨[]⟩⟩,⟨.type z18,none,.plain,⟨[some (.ref 445),some (.ref 3),some (.ref 442),none,some (.str zs1 840),none,some (.ref 0)]⟩⟩,⟨.type z10,none,(.seq ⟨[]⟩ 0),⟨[]⟩⟩,⟨.none,none,(.fields ⟨[]⟩),⟨[]⟩⟩,⟨.type z10,none,(.seq ⟨[.str zs3 875]⟩ 0),⟨[]⟩⟩,⟨.type z10,none,(.seq ⟨[]⟩ 0),⟨[]⟩⟩,⟨.none,none,(.func ⟨zs28,S 10 0x73747261702e65646f4e,dA p 29 1,.stmts (dB p 29 1),dS p 29 1,0,[],.none,.none,.none,.none,none,.none,.none,0⟩),⟨[]⟩⟩,⟨.type z15,none,(.fields ⟨[.str zs28 872,.str (S 10 0x73747261702e65646f4e) 873,.str zs0 874,.int 265 0,.int 1 0,.int 0 0,.int 0 0,.int 3 0,.ref 447,.bool true,.int 181 0,.ref 448,.none,.ref 449,.ref 450,.ref 451,.int 876 0,.int 265 0,.str zs0 877]⟩),⟨[]⟩⟩,⟨.type z20,none,(.func ⟨zs28,S 10 0x73747261702e65646f4e,dA p 29 1,.stmts (dB p 29 1),dS p 29 1,3,[],.none,.none,.none,.str zs1 840,none,.ref 452,.none,0⟩),⟨[]⟩⟩,⟨.type z10,none,(.seq ⟨[]⟩ 0),⟨[]⟩⟩,⟨.none,none,(.fields ⟨[]⟩),⟨[]⟩⟩,⟨.type z10,none,(.seq ⟨[.str zs3 882]⟩ 0),⟨[]⟩⟩,⟨.type z10,none,(.seq ⟨[]⟩ 0),⟨[]⟩⟩,⟨.none,none,(.func ⟨zs8,zs133,dA p 29 2,.stmts (dB p 29 2),dS p 29 2,0,[],.none,.none,.none,.none,none,.none,.none,0⟩),⟨[]⟩⟩,⟨.type z15,none,(.fields ⟨[.str zs8 879,.str zs133 880,.str zs0 881,.int 268 0,.int 1 0,.int 0 0,.int 0 0,.int 3 0,.ref 454,.bool true,.int 181 0,.ref 455,.none,.ref 456,.ref 457,.ref 458,.int 883 0,.int 268 0,.str zs0 884]⟩),⟨[]⟩⟩,⟨.type z20,none,(.func ⟨zs8,zs133,dA p 29 2,.stmts (dB p 29 2),dS p 29 2,3,[],.none,.none,.none,.str zs1 840,none,.ref 459,.none,0⟩),⟨[]⟩⟩,⟨.type z10,none,(.seq ⟨[]⟩ 0),⟨[]⟩⟩,⟨.type z5,none,(.dict ⟨[en P zs4 865 (.str zs1 840),en P zs6 869 (.int 262 868),en P zs11 871 (.str zs94 870),en P zs28 878 (.ref 453),en P zs8 885 (.ref 460),en P zs7 886 (.ref 461),en P zs30 888 (.ref 464),en P zs23 890 (.ref 465),en P zs5 891 (.none)]⟩ 4),⟨[]⟩⟩]
def l8_1 (p : Program) (P : Params) : List Obj:=[⟨.type z6,none,(.fields ⟨[.str zs30 887,.ref 463,.builtin z17,.builtin z4]⟩),⟨[]⟩⟩,⟨.type z6,none,(.fields ⟨[.str zs23 889,.ref 463,.builtin z1,.none]⟩),⟨[]⟩⟩,⟨.type z12,none,(.fields ⟨[.ref 463,.ref 463,.ref 463]⟩),⟨[]⟩⟩,⟨.type z2,none,(.fields ⟨[.builtin z13,.ref 463]⟩),⟨[]⟩⟩,⟨.type z10,none,(.seq ⟨[.ref 463]⟩ 0),⟨[]⟩⟩,⟨.type z2,none,(.fields ⟨[.builtin z0,.type z8]⟩),⟨[]⟩⟩,⟨.type z5,none,(.dict ⟨[en P zs4 901 (.str zs1 840),en P zs14 903 (.str zs27 902),en P zs6 905 (.int 270 904),en P zs11 907 (.str (S 5 0x7974706d65) 906),en P zs7 908 (.ref 475)]⟩ 5),⟨[]⟩⟩,⟨.type z10,none,(.seq ⟨[]⟩ 0),⟨[]⟩⟩,⟨.none,none,(.fields ⟨[]⟩),⟨[]⟩⟩,⟨.type z15,none,(.fields ⟨[.str zs27 896,.str zs27 897,.str zs0 898,.int 270 0,.int 0 0,.int 0 0,.int 0 0,.int 0 0,.ref 471,.bool false,.int 181 0,.ref 472,.none,.none,.none,.none,.int 899 0,.int 270 0,.str zs0 900]⟩),⟨[]⟩⟩,⟨.type z18,none,.plain,⟨[some (.ref 473),some (.ref 3),some (.ref 470),none,some (.str zs1 840),none,some (.ref 0)]⟩⟩,⟨.type z10,none,(.seq ⟨[]⟩ 0),⟨[]⟩⟩,⟨.type z5,none,(.dict ⟨[en P zs4 901 (.str zs1 840),en P zs6 905 (.int 270 904),en P zs11 907 (.str (S 5 0x7974706d65) 906),en P zs7 908 (.ref 475),en P zs5 909 (.none)]⟩ 2),⟨[]⟩⟩,⟨.type z8,none,(.cls ⟨zs27,[.ref 463],[.ref 477,.ref 463,.type z9],476,zs27,true,[],[],false,none,false⟩),⟨[some (.ref 468),none,some (.str zs27 894),some (.str zs27 902),some (.builtin z3),some (.bool true)]⟩⟩,⟨.type z12,none,(.fields ⟨[.ref 477,.ref 477,.ref 477]⟩),⟨[]⟩⟩,⟨.type z2,none,(.fields ⟨[.builtin z13,.ref 477]⟩),⟨[]⟩⟩]
noncomputable def tr8 (p : Program) (P : Params) : BT:=insAll (setAll (tr7 p P) [(3,o3v7 p P),(12,o12v5 p P)]) 433 (l8_0 p P ++ ([o463 p P] ++ l8_1 p P))
noncomputable def o3v8 : PPO:=fun p P=>⟨.type z5,none,(.dict ⟨[en P zs25 165 (.str zs1 840),en P zs5 166 (.none),en P zs52 167 (.none),en P zs53 168 (.builtin z19),en P zs54 169 (.none),en P zs26 170 (.ref 6),en P zs55 171 (.ref 4),en P zs56 173 (.str zs0 172),en P zs57 174 (.none),en P zs22 193 (.ref 21),en P zs38 197 (.str zs58 196),en P zs39 200 (.str zs59 199),en P zs40 202 (.str zs60 201),en P zs41 206 (.str zs61 205),en P zs42 209 (.str zs62 208),en P zs43 211 (.str zs63 210),en P zs44 213 (.int 4000 212),en P zs64 235 (.ref 22),en P zs15 275 (.ref 46),en P zs18 287 (.ref 57),en P zs16 325 (.ref 82),en P zs17 341 (.ref 95),en P zs19 501 (.ref 222),en P zs77 505 (.int 127 504),en P zs80 576 (.ref 227),en P zs24 831 (.ref 428),en P zs46 839 (.ref 439),en P zs87 843 (.int 40 842),en P zs88 845 (.int 20 844),en P zs89 847 (.int 0 846),en P (S 3 0x574f52) 849 (.int 1 848),en P zs90 851 (.int 2 850),en P zs91 853 (.str (S 3 0xa0920) 852),en P zs92 855 (.str zs99 854),en P zs93 857 (.str (S 1 0xa) 856),en P zs12 893 (.ref 463),en P zs27 911 (.ref 477),en P zs47 929 (.ref 489),en P zs29 963 (.ref 515),en P zs20 1007 (.ref 548)]⟩ 40),⟨[]⟩⟩
noncomputable def o12v6 : PPO:=fun p P=>⟨.none,none,(.fields ⟨[.int 1 0,.int 0 0,.ref 20,.int 13 0,.int 0 0,.ref 28,.int 22 0,.int 0 0,.ref 56,.int 31 0,.int 0 0,.ref 63,.int 42 0,.int 0 0,.ref 91,.int 44 0,.int 0 0,.ref 103,.int 144 0,.int 0 0,.ref 268,.int 248 0,.int 0 0,.ref 438,.int 262 0,.int 0 0,.ref 445,.int 270 0,.int 0 0,.ref 473,.int 272 0,.int 0 0,.ref 485,.int 274 0,.int 0 0,.ref 497,.int 282 0,.int 0 0,.ref 523]⟩),⟨[]⟩⟩
noncomputable def o463v1 : PPO:=fun p P=>⟨.type z8,none,(.cls ⟨zs12,[.type z9],[.ref 463,.type z9],462,zs12,true,[],[.ref 477,.ref 489,.ref 515,.ref 548],false,none,false⟩),⟨[none,none,some (.str zs12 858),some (.str zs12 866),some (.builtin z3),some (.bool true)]⟩⟩
noncomputable def o548 : PPO:=fun p P=>⟨.type z8,none,(.cls ⟨zs20,[.ref 463],[.ref 548,.ref 463,.type z9],547,zs20,true,[],[],false,none,false⟩),⟨[some (.ref 518),none,some (.str zs20 964),some (.str zs20 972),some (.builtin z3),some (.bool true)]⟩⟩
def l9_0 (p : Program) (P : Params) : List Obj:=[⟨.type z10,none,(.seq ⟨[.ref 463]⟩ 0),⟨[]⟩⟩,⟨.type z2,none,(.fields ⟨[.builtin z0,.type z8]⟩),⟨[]⟩⟩,⟨.type z5,none,(.dict ⟨[en P zs4 919 (.str zs1 840),en P zs14 921 (.str zs47 920),en P zs6 923 (.int 272 922),en P zs11 925 (.str (S 5 0x726576656e) 924),en P zs7 926 (.ref 487)]⟩ 5),⟨[]⟩⟩,⟨.type z10,none,(.seq ⟨[]⟩ 0),⟨[]⟩⟩,⟨.none,none,(.fields ⟨[]⟩),⟨[]⟩⟩,⟨.type z15,none,(.fields ⟨[.str zs47 914,.str zs47 915,.str zs0 916,.int 272 0,.int 0 0,.int 0 0,.int 0 0,.int 0 0,.ref 483,.bool false,.int 181 0,.ref 484,.none,.none,.none,.none,.int 917 0,.int 272 0,.str zs0 918]⟩),⟨[]⟩⟩,⟨.type z18,none,.plain,⟨[some (.ref 485),some (.ref 3),some (.ref 482),none,some (.str zs1 840),none,some (.ref 0)]⟩⟩,⟨.type z10,none,(.seq ⟨[]⟩ 0),⟨[]⟩⟩,⟨.type z5,none,(.dict ⟨[en P zs4 919 (.str zs1 840),en P zs6 923 (.int 272 922),en P zs11 925 (.str (S 5 0x726576656e) 924),en P zs7 926 (.ref 487),en P zs5 927 (.none)]⟩ 2),⟨[]⟩⟩,⟨.type z8,none,(.cls ⟨zs47,[.ref 463],[.ref 489,.ref 463,.type z9],488,zs47,true,[],[],false,none,false⟩),⟨[some (.ref 480),none,some (.str zs47 912),some (.str zs47 920),some (.builtin z3),some (.bool true)]⟩⟩,⟨.type z12,none,(.fields ⟨[.ref 489,.ref 489,.ref 489]⟩),⟨[]⟩⟩,⟨.type z2,none,(.fields ⟨[.builtin z13,.ref 489]⟩),⟨[]⟩⟩,⟨.type z10,none,(.seq ⟨[.ref 463]⟩ 0),⟨[]⟩⟩,⟨.type z2,none,(.fields ⟨[.builtin z0,.type z8]⟩),⟨[]⟩⟩,⟨.type z5,none,(.dict ⟨[en P zs4 937 (.str zs1 840),en P zs14 939 (.str zs29 938),en P zs6 941 (.int 274 940),en P zs11 943 (.str (S 5 0x7372616863) 942),en P zs2 951 (.ref 505),en P zs8 958 (.ref 512),en P zs7 960 (.ref 513)]⟩ 7),⟨[]⟩⟩,⟨.type z10,none,(.seq ⟨[]⟩ 0),⟨[]⟩⟩,⟨.none,none,(.fields ⟨[.int 277 0,.int 4 0,.ref 504,.int 280 0,.int 4 0,.ref 511]⟩),⟨[]⟩⟩,⟨.type z15,none,(.fields ⟨[.str zs29 932,.str zs29 933,.str zs0 934,.int 274 0,.int 0 0,.int 0 0,.int 0 0,.int 0 0,.ref 495,.bool false,.int 181 0,.ref 496,.none,.none,.none,.none,.int 935 0,.int 274 0,.str zs0 936]⟩),⟨[]⟩⟩,⟨.type z18,none,.plain,⟨[some (.ref 497),some (.ref 3),some (.ref 494),none,some (.str zs1 840),none,some (.ref 0)]⟩⟩,⟨.type z10,none,(.seq ⟨[]⟩ 0),⟨[]⟩⟩,⟨.none,none,(.fields ⟨[]⟩),⟨[]⟩⟩,⟨.type z10,none,(.seq ⟨[.str zs3 947,.str (S 7 0x74657372616863) 948]⟩ 0),⟨[]⟩⟩,⟨.type z10,none,(.seq ⟨[]⟩ 0),⟨[]⟩⟩,⟨.none,none,(.func ⟨zs2,zs134,dA p 32 1,.stmts (dB p 32 1),dS p 32 1,0,[],.none,.none,.none,.none,none,.none,.none,0⟩),⟨[]⟩⟩,⟨.type z15,none,(.fields ⟨[.str zs2 944,.str zs134 945,.str zs0 946,.int 277 0,.int 2 0,.int 0 0,.int 0 0,.int 3 0,.ref 499,.bool true,.int 181 0,.ref 500,.none,.ref 501,.ref 502,.ref 503,.int 949 0,.int 277 0,.str zs0 950]⟩),⟨[]⟩⟩,⟨.type z20,none,(.func ⟨zs2,zs134,dA p 32 1,.stmts (dB p 32 1),dS p 32 1,3,[],.none,.none,.none,.str zs1 840,none,.ref 504,.none,0⟩),⟨[]⟩⟩,⟨.type z10,none,(.seq ⟨[]⟩ 0),⟨[]⟩⟩,⟨.none,none,(.fields ⟨[]⟩),⟨[]⟩⟩,⟨.type z10,none,(.seq ⟨[.str zs3 955]⟩ 0),⟨[]⟩⟩,⟨.type z10,none,(.seq ⟨[]⟩ 0),⟨[]⟩⟩,⟨.none,none,(.func ⟨zs8,zs135,dA p 32 2,.stmts (dB p 32 2),dS p 32 2,0,[],.none,.none,.none,.none,none,.none,.none,0⟩),⟨[]⟩⟩,⟨.type z15,none,(.fields ⟨[.str zs8 952,.str zs135 953,.str zs0 954,.int 280 0,.int 1 0,.int 0 0,.int 0 0,.int 3 0,.ref 506,.bool true,.int 181 0,.ref 507,.none,.ref 508,.ref 509,.ref 510,.int 956 0,.int 280 0,.str zs0 957]⟩),⟨[]⟩⟩,⟨.type z20,none,(.func ⟨zs8,zs135,dA p 32 2,.stmts (dB p 32 2),dS p 32 2,3,[],.none,.none,.none,.str zs1 840,none,.ref 511,.none,0⟩),⟨[]⟩⟩,⟨.type z10,none,(.seq ⟨[.str (S 7 0x74657372616863) 959]⟩ 0),⟨[]⟩⟩,⟨.type z5,none,(.dict ⟨[en P zs4 937 (.str zs1 840),en P zs6 941 (.int 274 940),en P zs11 943 (.str (S 5 0x7372616863) 942),en P zs2 951 (.ref 505),en P zs8 958 (.ref 512),en P zs7 960 (.ref 513),en P zs5 961 (.none)]⟩ 2),⟨[]⟩⟩,⟨.type z8,none,(.cls ⟨zs29,[.ref 463],[.ref 515,.ref 463,.type z9],514,zs29,true,[],[],false,none,false⟩),⟨[some (.ref 492),none,some (.str zs29 930),some (.str zs29 938),some (.builtin z3),some (.bool true)]⟩⟩,⟨.type z12,none,(.fields ⟨[.ref 515,.ref 515,.ref 515]⟩),⟨[]⟩⟩,⟨.type z2,none,(.fields ⟨[.builtin z13,.ref 515]⟩),⟨[]⟩⟩,⟨.type z10,none,(.seq ⟨[.ref 463]⟩ 0),⟨[]⟩⟩,⟨.type z2,none,(.fields ⟨[.builtin z0,.type z8]⟩),⟨[]⟩⟩,⟨.type z5,none,(.dict ⟨[en P zs4 971 (.str zs1 840),en P zs14 973 (.str zs20 972),en P zs6 975 (.int 282 974),en P zs2 984 (.ref 531),en P zs28 991 (.ref 538),en P zs8 1001 (.ref 545),en P zs7 1004 (.ref 546)]⟩ 7),⟨[]⟩⟩,⟨.type z10,none,(.seq ⟨[]⟩ 0),⟨[]⟩⟩,⟨.none,none,(.fields ⟨[.int 284 0,.int 4 0,.ref 530,.int 288 0,.int 4 0,.ref 537,.int 291 0,.int 4 0,.ref 544]⟩),⟨[]⟩⟩,⟨.type z15,none,(.fields ⟨[.str zs20 966,.str zs20 967,.str zs0 968,.int 282 0,.int 0 0,.int 0 0,.int 0 0,.int 0 0,.ref 521,.bool false,.int 181 0,.ref 522,.none,.none,.none,.none,.int 969 0,.int 282 0,.str zs0 970]⟩),⟨[]⟩⟩,⟨.type z18,none,.plain,⟨[some (.ref 523),some (.ref 3),some (.ref 520),none,some (.str zs1 840),none,some (.ref 0)]⟩⟩,⟨.type z10,none,(.seq ⟨[]⟩ 0),⟨[]⟩⟩,⟨.none,none,(.fields ⟨[]⟩),⟨[]⟩⟩,⟨.type z10,none,(.seq ⟨[.str zs3 979,.str (S 4 0x7466656c) 980,.str (S 5 0x7468676972) 981]⟩ 0),⟨[]⟩⟩,⟨.type z10,none,(.seq ⟨[]⟩ 0),⟨[]⟩⟩,⟨.none,none,(.func ⟨zs2,zs136,dA p 33 0,.stmts (dB p 33 0),dS p 33 0,0,[],.none,.none,.none,.none,none,.none,.none,0⟩),⟨[]⟩⟩,⟨.type z15,none,(.fields ⟨[.str zs2 976,.str zs136 977,.str zs0 978,.int 284 0,.int 3 0,.int 0 0,.int 0 0,.int 3 0,.ref 525,.bool true,.int 181 0,.ref 526,.none,.ref 527,.ref 528,.ref 529,.int 982 0,.int 284 0,.str zs0 983]⟩),⟨[]⟩⟩,⟨.type z20,none,(.func ⟨zs2,zs136,dA p 33 0,.stmts (dB p 33 0),dS p 33 0,3,[],.none,.none,.none,.str zs1 840,none,.ref 530,.none,0⟩),⟨[]⟩⟩,⟨.type z10,none,(.seq ⟨[]⟩ 0),⟨[]⟩⟩,⟨.none,none,(.fields ⟨[]⟩),⟨[]⟩⟩,⟨.type z10,none,(.seq ⟨[.str zs3 988]⟩ 0),⟨[]⟩⟩,⟨.type z10,none,(.seq ⟨[]⟩ 0),⟨[]⟩⟩,⟨.none,none,(.func ⟨zs28,S 10 0x73747261702e72696150,dA p 33 1,.stmts (dB p 33 1),dS p 33 1,0,[],.none,.none,.none,.none,none,.none,.none,0⟩),⟨[]⟩⟩,⟨.type z15,none,(.fields ⟨[.str zs28 985,.str (S 10 0x73747261702e72696150) 986,.str zs0 987,.int 288 0,.int 1 0,.int 0 0,.int 0 0,.int 3 0,.ref 532,.bool true,.int 181 0,.ref 533,.none,.ref 534,.ref 535,.ref 536,.int 989 0,.int 288 0,.str zs0 990]⟩),⟨[]⟩⟩,⟨.type z20,none,(.func ⟨zs28,S 10 0x73747261702e72696150,dA p 33 1,.stmts (dB p 33 1),dS p 33 1,3,[],.none,.none,.none,.str zs1 840,none,.ref 537,.none,0⟩),⟨[]⟩⟩,⟨.type z10,none,(.seq ⟨[]⟩ 0),⟨[]⟩⟩,⟨.none,none,(.fields ⟨[]⟩),⟨[]⟩⟩,⟨.type z10,none,(.seq ⟨[.str zs3 995,.str (S 3 0x776f72) 996,.str (S 4 0x74786574) 997,.str (S 4 0x74726170) 998]⟩ 0),⟨[]⟩⟩,⟨.type z10,none,(.seq ⟨[]⟩ 0),⟨[]⟩⟩,⟨.none,none,(.func ⟨zs8,zs137,dA p 33 2,.stmts (dB p 33 2),dS p 33 2,0,[],.none,.none,.none,.none,none,.none,.none,0⟩),⟨[]⟩⟩,⟨.type z15,none,(.fields ⟨[.str zs8 992,.str zs137 993,.str zs0 994,.int 291 0,.int 1 0,.int 0 0,.int 0 0,.int 3 0,.ref 539,.bool true,.int 181 0,.ref 540,.none,.ref 541,.ref 542,.ref 543,.int 999 0,.int 291 0,.str zs0 1000]⟩),⟨[]⟩⟩,⟨.type z20,none,(.func ⟨zs8,zs137,dA p 33 2,.stmts (dB p 33 2),dS p 33 2,3,[],.none,.none,.none,.str zs1 840,none,.ref 544,.none,0⟩),⟨[]⟩⟩,⟨.type z10,none,(.seq ⟨[.str (S 4 0x7466656c) 1002,.str (S 5 0x7468676972) 1003]⟩ 0),⟨[]⟩⟩,⟨.type z5,none,(.dict ⟨[en P zs4 971 (.str zs1 840),en P zs6 975 (.int 282 974),en P zs2 984 (.ref 531),en P zs28 991 (.ref 538),en P zs8 1001 (.ref 545),en P zs7 1004 (.ref 546),en P zs5 1005 (.none)]⟩ 2),⟨[]⟩⟩]
def l9_1 (p : Program) (P : Params) : List Obj:=[⟨.type z12,none,(.fields ⟨[.ref 548,.ref 548,.ref 548]⟩),⟨[]⟩⟩,⟨.type z2,none,(.fields ⟨[.builtin z13,.ref 548]⟩),⟨[]⟩⟩]
noncomputable def tr9 (p : Program) (P : Params) : BT:=insAll (setAll (tr8 p P) [(3,o3v8 p P),(12,o12v6 p P),(463,o463v1 p P)]) 480 (l9_0 p P ++ ([o548 p P] ++ l9_1 p P))
noncomputable def o3v9 : PPO:=fun p P=>⟨.type z5,none,(.dict ⟨[en P zs25 165 (.str zs1 840),en P zs5 166 (.none),en P zs52 167 (.none),en P zs53 168 (.builtin z19),en P zs54 169 (.none),en P zs26 170 (.ref 6),en P zs55 171 (.ref 4),en P zs56 173 (.str zs0 172),en P zs57 174 (.none),en P zs22 193 (.ref 21),en P zs38 197 (.str zs58 196),en P zs39 200 (.str zs59 199),en P zs40 202 (.str zs60 201),en P zs41 206 (.str zs61 205),en P zs42 209 (.str zs62 208),en P zs43 211 (.str zs63 210),en P zs44 213 (.int 4000 212),en P zs64 235 (.ref 22),en P zs15 275 (.ref 46),en P zs18 287 (.ref 57),en P zs16 325 (.ref 82),en P zs17 341 (.ref 95),en P zs19 501 (.ref 222),en P zs77 505 (.int 127 504),en P zs80 576 (.ref 227),en P zs24 831 (.ref 428),en P zs46 839 (.ref 439),en P zs87 843 (.int 40 842),en P zs88 845 (.int 20 844),en P zs89 847 (.int 0 846),en P (S 3 0x574f52) 849 (.int 1 848),en P zs90 851 (.int 2 850),en P zs91 853 (.str (S 3 0xa0920) 852),en P zs92 855 (.str zs99 854),en P zs93 857 (.str (S 1 0xa) 856),en P zs12 893 (.ref 463),en P zs27 911 (.ref 477),en P zs47 929 (.ref 489),en P zs29 963 (.ref 515),en P zs20 1007 (.ref 548),en P zs31 1025 (.ref 560),en P zs32 1043 (.ref 572),en P zs13 1082 (.ref 605)]⟩ 43),⟨[]⟩⟩
noncomputable def o12v7 : PPO:=fun p P=>⟨.none,none,(.fields ⟨[.int 1 0,.int 0 0,.ref 20,.int 13 0,.int 0 0,.ref 28,.int 22 0,.int 0 0,.ref 56,.int 31 0,.int 0 0,.ref 63,.int 42 0,.int 0 0,.ref 91,.int 44 0,.int 0 0,.ref 103,.int 144 0,.int 0 0,.ref 268,.int 248 0,.int 0 0,.ref 438,.int 262 0,.int 0 0,.ref 445,.int 270 0,.int 0 0,.ref 473,.int 272 0,.int 0 0,.ref 485,.int 274 0,.int 0 0,.ref 497,.int 282 0,.int 0 0,.ref 523,.int 297 0,.int 0 0,.ref 556,.int 299 0,.int 0 0,.ref 568,.int 301 0,.int 0 0,.ref 580]⟩),⟨[]⟩⟩
noncomputable def o463v2 : PPO:=fun p P=>⟨.type z8,none,(.cls ⟨zs12,[.type z9],[.ref 463,.type z9],462,zs12,true,[],[.ref 477,.ref 489,.ref 515,.ref 548,.ref 605],false,none,false⟩),⟨[none,none,some (.str zs12 858),some (.str zs12 866),some (.builtin z3),some (.bool true)]⟩⟩
noncomputable def o548v1 : PPO:=fun p P=>⟨.type z8,none,(.cls ⟨zs20,[.ref 463],[.ref 548,.ref 463,.type z9],547,zs20,true,[],[.ref 560,.ref 572],false,none,false⟩),⟨[some (.ref 518),none,some (.str zs20 964),some (.str zs20 972),some (.builtin z3),some (.bool true)]⟩⟩
noncomputable def o605 : PPO:=fun p P=>⟨.type z8,none,(.cls ⟨zs13,[.ref 463],[.ref 605,.ref 463,.type z9],604,zs13,true,[],[],false,none,false⟩),⟨[some (.ref 575),none,some (.str zs13 1044),some (.str zs13 1052),some (.builtin z3),some (.bool true)]⟩⟩
def l10_0 (p : Program) (P : Params) : List Obj:=[⟨.type z10,none,(.seq ⟨[.ref 548]⟩ 0),⟨[]⟩⟩,⟨.type z2,none,(.fields ⟨[.builtin z0,.type z8]⟩),⟨[]⟩⟩,⟨.type z5,none,(.dict ⟨[en P zs4 1015 (.str zs1 840),en P zs14 1017 (.str zs31 1016),en P zs6 1019 (.int 297 1018),en P zs11 1021 (.str (S 3 0x746163) 1020),en P zs7 1022 (.ref 558)]⟩ 5),⟨[]⟩⟩,⟨.type z10,none,(.seq ⟨[]⟩ 0),⟨[]⟩⟩,⟨.none,none,(.fields ⟨[]⟩),⟨[]⟩⟩,⟨.type z15,none,(.fields ⟨[.str zs31 1010,.str zs31 1011,.str zs0 1012,.int 297 0,.int 0 0,.int 0 0,.int 0 0,.int 0 0,.ref 554,.bool false,.int 181 0,.ref 555,.none,.none,.none,.none,.int 1013 0,.int 297 0,.str zs0 1014]⟩),⟨[]⟩⟩,⟨.type z18,none,.plain,⟨[some (.ref 556),some (.ref 3),some (.ref 553),none,some (.str zs1 840),none,some (.ref 0)]⟩⟩,⟨.type z10,none,(.seq ⟨[]⟩ 0),⟨[]⟩⟩,⟨.type z5,none,(.dict ⟨[en P zs4 1015 (.str zs1 840),en P zs6 1019 (.int 297 1018),en P zs11 1021 (.str (S 3 0x746163) 1020),en P zs7 1022 (.ref 558),en P zs5 1023 (.none)]⟩ 2),⟨[]⟩⟩,⟨.type z8,none,(.cls ⟨zs31,[.ref 548],[.ref 560,.ref 548,.ref 463,.type z9],559,zs31,true,[],[],false,none,false⟩),⟨[some (.ref 551),none,some (.str zs31 1008),some (.str zs31 1016),some (.builtin z3),some (.bool true)]⟩⟩,⟨.type z12,none,(.fields ⟨[.ref 560,.ref 560,.ref 560]⟩),⟨[]⟩⟩,⟨.type z2,none,(.fields ⟨[.builtin z13,.ref 560]⟩),⟨[]⟩⟩,⟨.type z10,none,(.seq ⟨[.ref 548]⟩ 0),⟨[]⟩⟩,⟨.type z2,none,(.fields ⟨[.builtin z0,.type z8]⟩),⟨[]⟩⟩,⟨.type z5,none,(.dict ⟨[en P zs4 1033 (.str zs1 840),en P zs14 1035 (.str zs32 1034),en P zs6 1037 (.int 299 1036),en P zs11 1039 (.str (S 3 0x746c61) 1038),en P zs7 1040 (.ref 570)]⟩ 5),⟨[]⟩⟩,⟨.type z10,none,(.seq ⟨[]⟩ 0),⟨[]⟩⟩,⟨.none,none,(.fields ⟨[]⟩),⟨[]⟩⟩,⟨.type z15,none,(.fields ⟨[.str zs32 1028,.str zs32 1029,.str zs0 1030,.int 299 0,.int 0 0,.int 0 0,.int 0 0,.int 0 0,.ref 566,.bool false,.int 181 0,.ref 567,.none,.none,.none,.none,.int 1031 0,.int 299 0,.str zs0 1032]⟩),⟨[]⟩⟩,⟨.type z18,none,.plain,⟨[some (.ref 568),some (.ref 3),some (.ref 565),none,some (.str zs1 840),none,some (.ref 0)]⟩⟩,⟨.type z10,none,(.seq ⟨[]⟩ 0),⟨[]⟩⟩,⟨.type z5,none,(.dict ⟨[en P zs4 1033 (.str zs1 840),en P zs6 1037 (.int 299 1036),en P zs11 1039 (.str (S 3 0x746c61) 1038),en P zs7 1040 (.ref 570),en P zs5 1041 (.none)]⟩ 2),⟨[]⟩⟩,⟨.type z8,none,(.cls ⟨zs32,[.ref 548],[.ref 572,.ref 548,.ref 463,.type z9],571,zs32,true,[],[],false,none,false⟩),⟨[some (.ref 563),none,some (.str zs32 1026),some (.str zs32 1034),some (.builtin z3),some (.bool true)]⟩⟩,⟨.type z12,none,(.fields ⟨[.ref 572,.ref 572,.ref 572]⟩),⟨[]⟩⟩,⟨.type z2,none,(.fields ⟨[.builtin z13,.ref 572]⟩),⟨[]⟩⟩,⟨.type z10,none,(.seq ⟨[.ref 463]⟩ 0),⟨[]⟩⟩,⟨.type z2,none,(.fields ⟨[.builtin z0,.type z8]⟩),⟨[]⟩⟩,⟨.type z5,none,(.dict ⟨[en P zs4 1051 (.str zs1 840),en P zs14 1053 (.str zs13 1052),en P zs6 1055 (.int 301 1054),en P zs2 1063 (.ref 588),en P zs28 1070 (.ref 595),en P zs8 1077 (.ref 602),en P zs7 1079 (.ref 603)]⟩ 7),⟨[]⟩⟩,⟨.type z10,none,(.seq ⟨[]⟩ 0),⟨[]⟩⟩,⟨.none,none,(.fields ⟨[.int 303 0,.int 4 0,.ref 587,.int 306 0,.int 4 0,.ref 594,.int 309 0,.int 4 0,.ref 601]⟩),⟨[]⟩⟩,⟨.type z15,none,(.fields ⟨[.str zs13 1046,.str zs13 1047,.str zs0 1048,.int 301 0,.int 0 0,.int 0 0,.int 0 0,.int 0 0,.ref 578,.bool false,.int 181 0,.ref 579,.none,.none,.none,.none,.int 1049 0,.int 301 0,.str zs0 1050]⟩),⟨[]⟩⟩,⟨.type z18,none,.plain,⟨[some (.ref 580),some (.ref 3),some (.ref 577),none,some (.str zs1 840),none,some (.ref 0)]⟩⟩,⟨.type z10,none,(.seq ⟨[]⟩ 0),⟨[]⟩⟩,⟨.none,none,(.fields ⟨[]⟩),⟨[]⟩⟩,⟨.type z10,none,(.seq ⟨[.str zs3 1059,.str (S 4 0x79646f62) 1060]⟩ 0),⟨[]⟩⟩,⟨.type z10,none,(.seq ⟨[]⟩ 0),⟨[]⟩⟩,⟨.none,none,(.func ⟨zs2,zs138,dA p 36 0,.stmts (dB p 36 0),dS p 36 0,0,[],.none,.none,.none,.none,none,.none,.none,0⟩),⟨[]⟩⟩,⟨.type z15,none,(.fields ⟨[.str zs2 1056,.str zs138 1057,.str zs0 1058,.int 303 0,.int 2 0,.int 0 0,.int 0 0,.int 3 0,.ref 582,.bool true,.int 181 0,.ref 583,.none,.ref 584,.ref 585,.ref 586,.int 1061 0,.int 303 0,.str zs0 1062]⟩),⟨[]⟩⟩,⟨.type z20,none,(.func ⟨zs2,zs138,dA p 36 0,.stmts (dB p 36 0),dS p 36 0,3,[],.none,.none,.none,.str zs1 840,none,.ref 587,.none,0⟩),⟨[]⟩⟩,⟨.type z10,none,(.seq ⟨[]⟩ 0),⟨[]⟩⟩,⟨.none,none,(.fields ⟨[]⟩),⟨[]⟩⟩,⟨.type z10,none,(.seq ⟨[.str zs3 1067]⟩ 0),⟨[]⟩⟩,⟨.type z10,none,(.seq ⟨[]⟩ 0),⟨[]⟩⟩,⟨.none,none,(.func ⟨zs28,S 10 0x73747261702e706f6f4c,dA p 36 1,.stmts (dB p 36 1),dS p 36 1,0,[],.none,.none,.none,.none,none,.none,.none,0⟩),⟨[]⟩⟩,⟨.type z15,none,(.fields ⟨[.str zs28 1064,.str (S 10 0x73747261702e706f6f4c) 1065,.str zs0 1066,.int 306 0,.int 1 0,.int 0 0,.int 0 0,.int 3 0,.ref 589,.bool true,.int 181 0,.ref 590,.none,.ref 591,.ref 592,.ref 593,.int 1068 0,.int 306 0,.str zs0 1069]⟩),⟨[]⟩⟩,⟨.type z20,none,(.func ⟨zs28,S 10 0x73747261702e706f6f4c,dA p 36 1,.stmts (dB p 36 1),dS p 36 1,3,[],.none,.none,.none,.str zs1 840,none,.ref 594,.none,0⟩),⟨[]⟩⟩,⟨.type z10,none,(.seq ⟨[]⟩ 0),⟨[]⟩⟩,⟨.none,none,(.fields ⟨[]⟩),⟨[]⟩⟩,⟨.type z10,none,(.seq ⟨[.str zs3 1074]⟩ 0),⟨[]⟩⟩,⟨.type z10,none,(.seq ⟨[]⟩ 0),⟨[]⟩⟩,⟨.none,none,(.func ⟨zs8,S 9 0x646c6f742e706f6f4c,dA p 36 2,.stmts (dB p 36 2),dS p 36 2,0,[],.none,.none,.none,.none,none,.none,.none,0⟩),⟨[]⟩⟩,⟨.type z15,none,(.fields ⟨[.str zs8 1071,.str (S 9 0x646c6f742e706f6f4c) 1072,.str zs0 1073,.int 309 0,.int 1 0,.int 0 0,.int 0 0,.int 3 0,.ref 596,.bool true,.int 181 0,.ref 597,.none,.ref 598,.ref 599,.ref 600,.int 1075 0,.int 309 0,.str zs0 1076]⟩),⟨[]⟩⟩,⟨.type z20,none,(.func ⟨zs8,S 9 0x646c6f742e706f6f4c,dA p 36 2,.stmts (dB p 36 2),dS p 36 2,3,[],.none,.none,.none,.str zs1 840,none,.ref 601,.none,0⟩),⟨[]⟩⟩,⟨.type z10,none,(.seq ⟨[.str (S 4 0x79646f62) 1078]⟩ 0),⟨[]⟩⟩,⟨.type z5,none,(.dict ⟨[en P zs4 1051 (.str zs1 840),en P zs6 1055 (.int 301 1054),en P zs2 1063 (.ref 588),en P zs28 1070 (.ref 595),en P zs8 1077 (.ref 602),en P zs7 1079 (.ref 603),en P zs5 1080 (.none)]⟩ 2),⟨[]⟩⟩]
def l10_1 (p : Program) (P : Params) : List Obj:=[⟨.type z12,none,(.fields ⟨[.ref 605,.ref 605,.ref 605]⟩),⟨[]⟩⟩,⟨.type z2,none,(.fields ⟨[.builtin z13,.ref 605]⟩),⟨[]⟩⟩]
noncomputable def tr10 (p : Program) (P : Params) : BT:=insAll (setAll (tr9 p P) [(3,o3v9 p P),(12,o12v7 p P),(463,o463v2 p P),(548,o548v1 p P)]) 551 (l10_0 p P ++ ([o605 p P] ++ l10_1 p P))
noncomputable def o3v10 : PPO:=fun p P=>⟨.type z5,none,(.dict ⟨[en P zs25 165 (.str zs1 840),en P zs5 166 (.none),en P zs52 167 (.none),en P zs53 168 (.builtin z19),en P zs54 169 (.none),en P zs26 170 (.ref 6),en P zs55 171 (.ref 4),en P zs56 173 (.str zs0 172),en P zs57 174 (.none),en P zs22 193 (.ref 21),en P zs38 197 (.str zs58 196),en P zs39 200 (.str zs59 199),en P zs40 202 (.str zs60 201),en P zs41 206 (.str zs61 205),en P zs42 209 (.str zs62 208),en P zs43 211 (.str zs63 210),en P zs44 213 (.int 4000 212),en P zs64 235 (.ref 22),en P zs15 275 (.ref 46),en P zs18 287 (.ref 57),en P zs16 325 (.ref 82),en P zs17 341 (.ref 95),en P zs19 501 (.ref 222),en P zs77 505 (.int 127 504),en P zs80 576 (.ref 227),en P zs24 831 (.ref 428),en P zs46 839 (.ref 439),en P zs87 843 (.int 40 842),en P zs88 845 (.int 20 844),en P zs89 847 (.int 0 846),en P (S 3 0x574f52) 849 (.int 1 848),en P zs90 851 (.int 2 850),en P zs91 853 (.str (S 3 0xa0920) 852),en P zs92 855 (.str zs99 854),en P zs93 857 (.str (S 1 0xa) 856),en P zs12 893 (.ref 463),en P zs27 911 (.ref 477),en P zs47 929 (.ref 489),en P zs29 963 (.ref 515),en P zs20 1007 (.ref 548),en P zs31 1025 (.ref 560),en P zs32 1043 (.ref 572),en P zs13 1082 (.ref 605),en P zs33 1100 (.ref 617),en P zs34 1118 (.ref 629),en P zs35 1136 (.ref 641)]⟩ 46),⟨[]⟩⟩
noncomputable def o12v8 : PPO:=fun p P=>⟨.none,none,(.fields ⟨[.int 1 0,.int 0 0,.ref 20,.int 13 0,.int 0 0,.ref 28,.int 22 0,.int 0 0,.ref 56,.int 31 0,.int 0 0,.ref 63,.int 42 0,.int 0 0,.ref 91,.int 44 0,.int 0 0,.ref 103,.int 144 0,.int 0 0,.ref 268,.int 248 0,.int 0 0,.ref 438,.int 262 0,.int 0 0,.ref 445,.int 270 0,.int 0 0,.ref 473,.int 272 0,.int 0 0,.ref 485,.int 274 0,.int 0 0,.ref 497,.int 282 0,.int 0 0,.ref 523,.int 297 0,.int 0 0,.ref 556,.int 299 0,.int 0 0,.ref 568,.int 301 0,.int 0 0,.ref 580,.int 311 0,.int 0 0,.ref 613,.int 313 0,.int 0 0,.ref 625,.int 315 0,.int 0 0,.ref 637]⟩),⟨[]⟩⟩
noncomputable def o605v1 : PPO:=fun p P=>⟨.type z8,none,(.cls ⟨zs13,[.ref 463],[.ref 605,.ref 463,.type z9],604,zs13,true,[],[.ref 617,.ref 629,.ref 641],false,none,false⟩),⟨[some (.ref 575),none,some (.str zs13 1044),some (.str zs13 1052),some (.builtin z3),some (.bool true)]⟩⟩
def l11_0 (p : Program) (P : Params) : List Obj:=[⟨.type z10,none,(.seq ⟨[.ref 605]⟩ 0),⟨[]⟩⟩,⟨.type z2,none,(.fields ⟨[.builtin z0,.type z8]⟩),⟨[]⟩⟩,⟨.type z5,none,(.dict ⟨[en P zs4 1090 (.str zs1 840),en P zs14 1092 (.str zs33 1091),en P zs6 1094 (.int 311 1093),en P zs11 1096 (.str (S 4 0x72617473) 1095),en P zs7 1097 (.ref 615)]⟩ 5),⟨[]⟩⟩,⟨.type z10,none,(.seq ⟨[]⟩ 0),⟨[]⟩⟩,⟨.none,none,(.fields ⟨[]⟩),⟨[]⟩⟩,⟨.type z15,none,(.fields ⟨[.str zs33 1085,.str zs33 1086,.str zs0 1087,.int 311 0,.int 0 0,.int 0 0,.int 0 0,.int 0 0,.ref 611,.bool false,.int 181 0,.ref 612,.none,.none,.none,.none,.int 1088 0,.int 311 0,.str zs0 1089]⟩),⟨[]⟩⟩,⟨.type z18,none,.plain,⟨[some (.ref 613),some (.ref 3),some (.ref 610),none,some (.str zs1 840),none,some (.ref 0)]⟩⟩,⟨.type z10,none,(.seq ⟨[]⟩ 0),⟨[]⟩⟩,⟨.type z5,none,(.dict ⟨[en P zs4 1090 (.str zs1 840),en P zs6 1094 (.int 311 1093),en P zs11 1096 (.str (S 4 0x72617473) 1095),en P zs7 1097 (.ref 615),en P zs5 1098 (.none)]⟩ 2),⟨[]⟩⟩,⟨.type z8,none,(.cls ⟨zs33,[.ref 605],[.ref 617,.ref 605,.ref 463,.type z9],616,zs33,true,[],[],false,none,false⟩),⟨[some (.ref 608),none,some (.str zs33 1083),some (.str zs33 1091),some (.builtin z3),some (.bool true)]⟩⟩,⟨.type z12,none,(.fields ⟨[.ref 617,.ref 617,.ref 617]⟩),⟨[]⟩⟩,⟨.type z2,none,(.fields ⟨[.builtin z13,.ref 617]⟩),⟨[]⟩⟩,⟨.type z10,none,(.seq ⟨[.ref 605]⟩ 0),⟨[]⟩⟩,⟨.type z2,none,(.fields ⟨[.builtin z0,.type z8]⟩),⟨[]⟩⟩,⟨.type z5,none,(.dict ⟨[en P zs4 1108 (.str zs1 840),en P zs14 1110 (.str zs34 1109),en P zs6 1112 (.int 313 1111),en P zs11 1114 (.str (S 4 0x73756c70) 1113),en P zs7 1115 (.ref 627)]⟩ 5),⟨[]⟩⟩,⟨.type z10,none,(.seq ⟨[]⟩ 0),⟨[]⟩⟩,⟨.none,none,(.fields ⟨[]⟩),⟨[]⟩⟩,⟨.type z15,none,(.fields ⟨[.str zs34 1103,.str zs34 1104,.str zs0 1105,.int 313 0,.int 0 0,.int 0 0,.int 0 0,.int 0 0,.ref 623,.bool false,.int 181 0,.ref 624,.none,.none,.none,.none,.int 1106 0,.int 313 0,.str zs0 1107]⟩),⟨[]⟩⟩,⟨.type z18,none,.plain,⟨[some (.ref 625),some (.ref 3),some (.ref 622),none,some (.str zs1 840),none,some (.ref 0)]⟩⟩,⟨.type z10,none,(.seq ⟨[]⟩ 0),⟨[]⟩⟩,⟨.type z5,none,(.dict ⟨[en P zs4 1108 (.str zs1 840),en P zs6 1112 (.int 313 1111),en P zs11 1114 (.str (S 4 0x73756c70) 1113),en P zs7 1115 (.ref 627),en P zs5 1116 (.none)]⟩ 2),⟨[]⟩⟩,⟨.type z8,none,(.cls ⟨zs34,[.ref 605],[.ref 629,.ref 605,.ref 463,.type z9],628,zs34,true,[],[],false,none,false⟩),⟨[some (.ref 620),none,some (.str zs34 1101),some (.str zs34 1109),some (.builtin z3),some (.bool true)]⟩⟩,⟨.type z12,none,(.fields ⟨[.ref 629,.ref 629,.ref 629]⟩),⟨[]⟩⟩,⟨.type z2,none,(.fields ⟨[.builtin z13,.ref 629]⟩),⟨[]⟩⟩,⟨.type z10,none,(.seq ⟨[.ref 605]⟩ 0),⟨[]⟩⟩,⟨.type z2,none,(.fields ⟨[.builtin z0,.type z8]⟩),⟨[]⟩⟩,⟨.type z5,none,(.dict ⟨[en P zs4 1126 (.str zs1 840),en P zs14 1128 (.str zs35 1127),en P zs6 1130 (.int 315 1129),en P zs11 1132 (.str (S 3 0x74706f) 1131),en P zs7 1133 (.ref 639)]⟩ 5),⟨[]⟩⟩,⟨.type z10,none,(.seq ⟨[]⟩ 0),⟨[]⟩⟩,⟨.none,none,(.fields ⟨[]⟩),⟨[]⟩⟩,⟨.type z15,none,(.fields ⟨[.str zs35 1121,.str zs35 1122,.str zs0 1123,.int 315 0,.int 0 0,.int 0 0,.int 0 0,.int 0 0,.ref 635,.bool false,.int 181 0,.ref 636,.none,.none,.none,.none,.int 1124 0,.int 315 0,.str zs0 1125]⟩),⟨[]⟩⟩,⟨.type z18,none,.plain,⟨[some (.ref 637),some (.ref 3),some (.ref 634),none,some (.str zs1 840),none,some (.ref 0)]⟩⟩,⟨.type z10,none,(.seq ⟨[]⟩ 0),⟨[]⟩⟩,⟨.type z5,none,(.dict ⟨[en P zs4 1126 (.str zs1 840),en P zs6 1130 (.int 315 1129),en P zs11 1132 (.str (S 3 0x74706f) 1131),en P zs7 1133 (.ref 639),en P zs5 1134 (.none)]⟩ 2),⟨[]⟩⟩,⟨.type z8,none,(.cls ⟨zs35,[.ref 605],[.ref 641,.ref 605,.ref 463,.type z9],640,zs35,true,[],[],false,none,false⟩),⟨[some (.ref 632),none,some (.str zs35 1119),some (.str zs35 1127),some (.builtin z3),some (.bool true)]⟩⟩,⟨.type z12,none,(.fields ⟨[.ref 641,.ref 641,.ref 641]⟩),⟨[]⟩⟩,⟨.type z2,none,(.fields ⟨[.builtin z13,.ref 641]⟩),⟨[]⟩⟩]
noncomputable def tr11 (p : Program) (P : Params) : BT:=insAll (setAll (tr10 p P) [(3,o3v10 p P),(12,o12v8 p P),(605,o605v1 p P)]) 608 (l11_0 p P)
noncomputable def o3v11 : PPO:=fun p P=>⟨.type z5,none,(.dict ⟨[en P zs25 165 (.str zs1 840),en P zs5 166 (.none),en P zs52 167 (.none),en P zs53 168 (.builtin z19),en P zs54 169 (.none),en P zs26 170 (.ref 6),en P zs55 171 (.ref 4),en P zs56 173 (.str zs0 172),en P zs57 174 (.none),en P zs22 193 (.ref 21),en P zs38 197 (.str zs58 196),en P zs39 200 (.str zs59 199),en P zs40 202 (.str zs60 201),en P zs41 206 (.str zs61 205),en P zs42 209 (.str zs62 208),en P zs43 211 (.str zs63 210),en P zs44 213 (.int 4000 212),en P zs64 235 (.ref 22),en P zs15 275 (.ref 46),en P zs18 287 (.ref 57),en P zs16 325 (.ref 82),en P zs17 341 (.ref 95),en P zs19 501 (.ref 222),en P zs77 505 (.int 127 504),en P zs80 576 (.ref 227),en P zs24 831 (.ref 428),en P zs46 839 (.ref 439),en P zs87 843 (.int 40 842),en P zs88 845 (.int 20 844),en P zs89 847 (.int 0 846),en P (S 3 0x574f52) 849 (.int 1 848),en P zs90 851 (.int 2 850),en P zs91 853 (.str (S 3 0xa0920) 852),en P zs92 855 (.str zs99 854),en P zs93 857 (.str (S 1 0xa) 856),en P zs12 893 (.ref 463),en P zs27 911 (.ref 477),en P zs47 929 (.ref 489),en P zs29 963 (.ref 515),en P zs20 1007 (.ref 548),en P zs31 1025 (.ref 560),en P zs32 1043 (.ref 572),en P zs13 1082 (.ref 605),en P zs33 1100 (.ref 617),en P zs34 1118 (.ref 629),en P zs35 1136 (.ref 641),en P zs78 1173 (.ref 667),en P zs48 1182 (.ref 676),en P zs49 1188 (.ref 682),en P zs50 1197 (.ref 689),en P zs81 1204 (.ref 696),en P zs37 1259 (.ref 734)]⟩ 52),⟨[]⟩⟩
noncomputable def o12v9 : PPO:=fun p P=>⟨.none,none,(.fields ⟨[.int 1 0,.int 0 0,.ref 20,.int 13 0,.int 0 0,.ref 28,.int 22 0,.int 0 0,.ref 56,.int 31 0,.int 0 0,.ref 63,.int 42 0,.int 0 0,.ref 91,.int 44 0,.int 0 0,.ref 103,.int 144 0,.int 0 0,.ref 268,.int 248 0,.int 0 0,.ref 438,.int 262 0,.int 0 0,.ref 445,.int 270 0,.int 0 0,.ref 473,.int 272 0,.int 0 0,.ref 485,.int 274 0,.int 0 0,.ref 497,.int 282 0,.int 0 0,.ref 523,.int 297 0,.int 0 0,.ref 556,.int 299 0,.int 0 0,.ref 568,.int 301 0,.int 0 0,.ref 580,.int 311 0,.int 0 0,.ref 613,.int 313 0,.int 0 0,.ref 625,.int 315 0,.int 0 0,.ref 637,.int 317 0,.int 0 0,.ref 649,.int 331 0,.int 0 0,.ref 675,.int 340 0,.int 0 0,.ref 681,.int 355 0,.int 0 0,.ref 688,.int 362 0,.int 0 0,.ref 695,.int 366 0,.int 0 0,.ref 702]⟩),⟨[]⟩⟩
noncomputable def o605v2 : PPO:=fun p P=>⟨.type z8,none,(.cls ⟨zs13,[.ref 463],[.ref 605,.ref 463,.type z9],604,zs13,true,[],[.ref 617,.ref 629,.ref 641,.ref 667],false,none,false⟩),⟨[some (.ref 575),none,some (.str zs13 1044),some (.str zs13 1052),some (.builtin z3),some (.bool true)]⟩⟩
def l12_0 (p : Program) (P : Params) : List Obj:=[⟨.type z10,none,(.seq ⟨[.ref 605]⟩ 0),⟨[]⟩⟩,⟨.type z2,none,(.fields ⟨[.builtin z0,.type z8]⟩),⟨[]⟩⟩,⟨.type z5,none,(.dict ⟨[en P zs4 1144 (.str zs1 840),en P zs14 1146 (.str zs78 1145),en P zs6 1148 (.int 317 1147),en P zs11 1150 (.str (S 6 0x746165706572) 1149),en P zs2 1160 (.ref 657),en P zs8 1167 (.ref 664),en P zs7 1170 (.ref 665)]⟩ 7),⟨[]⟩⟩,⟨.type z10,none,(.seq ⟨[]⟩ 0),⟨[]⟩⟩,⟨.none,none,(.fields ⟨[.int 320 0,.int 4 0,.ref 656,.int 329 0,.int 4 0,.ref 663]⟩),⟨[]⟩⟩,⟨.type z15,none,(.fields ⟨[.str zs78 1139,.str zs78 1140,.str zs0 1141,.int 317 0,.int 0 0,.int 0 0,.int 0 0,.int 0 0,.ref 647,.bool false,.int 181 0,.ref 648,.none,.none,.none,.none,.int 1142 0,.int 317 0,.str zs0 1143]⟩),⟨[]⟩⟩,⟨.type z18,none,.plain,⟨[some (.ref 649),some (.ref 3),some (.ref 646),none,some (.str zs1 840),none,some (.ref 0)]⟩⟩,⟨.type z10,none,(.seq ⟨[]⟩ 0),⟨[]⟩⟩,⟨.none,none,(.fields ⟨[]⟩),⟨[]⟩⟩,⟨.type z10,none,(.seq ⟨[.str zs3 1154,.str (S 4 0x79646f62) 1155,.str (S 3 0x776f6c) 1156,.str zs86 1157]⟩ 0),⟨[]⟩⟩,⟨.type z10,none,(.seq ⟨[]⟩ 0),⟨[]⟩⟩,⟨.none,none,(.func ⟨zs2,S 15 0x5f5f74696e695f5f2e746165706552,dA p 40 1,.stmts (dB p 40 1),dS p 40 1,0,[],.none,.none,.none,.none,none,.none,.none,0⟩),⟨[]⟩⟩,⟨.type z15,none,(.fields ⟨[.str zs2 1151,.str (S 15 0x5f5f74696e695f5f2e746165706552) 1152,.str zs0 1153,.int 320 0,.int 4 0,.int 0 0,.int 0 0,.int 3 0,.ref 651,.bool true,.int 181 0,.ref 652,.none,.ref 653,.ref 654,.ref 655,.int 1158 0,.int 320 0,.str zs0 1159]⟩),⟨[]⟩⟩,⟨.type z20,none,(.func ⟨zs2,S 15 0x5f5f74696e695f5f2e746165706552,dA p 40 1,.stmts (dB p 40 1),dS p 40 1,3,[],.none,.none,.none,.str zs1 840,none,.ref 656,.none,0⟩),⟨[]⟩⟩,⟨.type z10,none,(.seq ⟨[]⟩ 0),⟨[]⟩⟩,⟨.none,none,(.fields ⟨[]⟩),⟨[]⟩⟩,⟨.type z10,none,(.seq ⟨[.str zs3 1164]⟩ 0),⟨[]⟩⟩,⟨.type z10,none,(.seq ⟨[]⟩ 0),⟨[]⟩⟩,⟨.none,none,(.func ⟨zs8,S 11 0x646c6f742e746165706552,dA p 40 2,.stmts (dB p 40 2),dS p 40 2,0,[],.none,.none,.none,.none,none,.none,.none,0⟩),⟨[]⟩⟩,⟨.type z15,none,(.fields ⟨[.str zs8 1161,.str (S 11 0x646c6f742e746165706552) 1162,.str zs0 1163,.int 329 0,.int 1 0,.int 0 0,.int 0 0,.int 3 0,.ref 658,.bool true,.int 181 0,.ref 659,.none,.ref 660,.ref 661,.ref 662,.int 1165 0,.int 329 0,.str zs0 1166]⟩),⟨[]⟩⟩,⟨.type z20,none,(.func ⟨zs8,S 11 0x646c6f742e746165706552,dA p 40 2,.stmts (dB p 40 2),dS p 40 2,3,[],.none,.none,.none,.str zs1 840,none,.ref 663,.none,0⟩),⟨[]⟩⟩,⟨.type z10,none,(.seq ⟨[.str zs86 1168,.str (S 3 0x776f6c) 1169]⟩ 0),⟨[]⟩⟩,⟨.type z5,none,(.dict ⟨[en P zs4 1144 (.str zs1 840),en P zs6 1148 (.int 317 1147),en P zs11 1150 (.str (S 6 0x746165706572) 1149),en P zs2 1160 (.ref 657),en P zs8 1167 (.ref 664),en P zs7 1170 (.ref 665),en P zs5 1171 (.none)]⟩ 2),⟨[]⟩⟩,⟨.type z8,none,(.cls ⟨zs78,[.ref 605],[.ref 667,.ref 605,.ref 463,.type z9],666,zs78,true,[],[],false,none,false⟩),⟨[some (.ref 644),none,some (.str zs78 1137),some (.str zs78 1145),some (.builtin z3),some (.bool true)]⟩⟩,⟨.type z12,none,(.fields ⟨[.ref 667,.ref 667,.ref 667]⟩),⟨[]⟩⟩,⟨.type z2,none,(.fields ⟨[.builtin z13,.ref 667]⟩),⟨[]⟩⟩,⟨.type z10,none,(.seq ⟨[]⟩ 0),⟨[]⟩⟩,⟨.none,none,(.fields ⟨[]⟩),⟨[]⟩⟩,⟨.type z10,none,(.seq ⟨[.str zs94 1177,.str zs28 1178,.str (S 4 0x65726568) 1179]⟩ 0),⟨[]⟩⟩,⟨.type z10,none,(.seq ⟨[]⟩ 0),⟨[]⟩⟩,⟨.none,none,(.func ⟨zs48,zs48,dA p 41 1000,.stmts (dB p 41 1000),dS p 41 1000,0,[],.none,.none,.none,.none,none,.none,.none,0⟩),⟨[]⟩⟩,⟨.type z15,none,(.fields ⟨[.str zs48 1174,.str zs48 1175,.str zs0 1176,.int 331 0,.int 1 0,.int 0 0,.int 0 0,.int 3 0,.ref 670,.bool true,.int 181 0,.ref 671,.none,.ref 672,.ref 673,.ref 674,.int 1180 0,.int 331 0,.str zs0 1181]⟩),⟨[]⟩⟩,⟨.type z20,none,(.func ⟨zs48,zs48,dA p 41 1000,.stmts (dB p 41 1000),dS p 41 1000,3,[],.none,.none,.none,.str zs1 840,none,.ref 675,.none,0⟩),⟨[]⟩⟩,⟨.type z10,none,(.seq ⟨[.int 0 846]⟩ 0),⟨[]⟩⟩,⟨.type z10,none,(.seq ⟨[]⟩ 0),⟨[]⟩⟩,⟨.none,none,(.fields ⟨[]⟩),⟨[]⟩⟩,⟨.none,none,(.func ⟨zs49,zs49,dA p 42 1000,.stmts (dB p 42 1000),dS p 42 1000,0,[],.none,.none,.none,.none,none,.none,.none,0⟩),⟨[]⟩⟩,⟨.type z15,none,(.fields ⟨[.str zs49 1183,.str zs49 1184,.str zs0 1185,.int 340 0,.int 2 0,.int 0 0,.int 0 0,.int 3 0,.ref 678,.bool true,.int 181 0,.ref 679,.none,.none,.none,.ref 680,.int 1186 0,.int 340 0,.str zs0 1187]⟩),⟨[]⟩⟩,⟨.type z20,none,(.func ⟨zs49,zs49,dA p 42 1000,.stmts (dB p 42 1000),dS p 42 1000,3,[],.ref 677,.none,.none,.str zs1 840,none,.ref 681,.none,0⟩),⟨[]⟩⟩,⟨.type z10,none,(.seq ⟨[]⟩ 0),⟨[]⟩⟩,⟨.none,none,(.fields ⟨[]⟩),⟨[]⟩⟩,⟨.type z10,none,(.seq ⟨[.str (S 5 0x7365646f6e) 1192,.str zs94 1193,.str (S 4 0x74726170) 1194]⟩ 0),⟨[]⟩⟩,⟨.type z10,none,(.seq ⟨[]⟩ 0),⟨[]⟩⟩,⟨.none,none,(.func ⟨zs50,zs50,dA p 43 1000,.stmts (dB p 43 1000),dS p 43 1000,0,[],.none,.none,.none,.none,none,.none,.none,0⟩),⟨[]⟩⟩,⟨.type z15,none,(.fields ⟨[.str zs50 1189,.str zs50 1190,.str zs0 1191,.int 355 0,.int 1 0,.int 0 0,.int 0 0,.int 3 0,.ref 683,.bool true,.int 181 0,.ref 684,.none,.ref 685,.ref 686,.ref 687,.int 1195 0,.int 355 0,.str zs0 1196]⟩),⟨[]⟩⟩,⟨.type z20,none,(.func ⟨zs50,zs50,dA p 43 1000,.stmts (dB p 43 1000),dS p 43 1000,3,[],.none,.none,.none,.str zs1 840,none,.ref 688,.none,0⟩),⟨[]⟩⟩,⟨.type z10,none,(.seq ⟨[]⟩ 0),⟨[]⟩⟩,⟨.none,none,(.fields ⟨[]⟩),⟨[]⟩⟩,⟨.type z10,none,(.seq ⟨[.str (S 7 0x74657372616863) 1201]⟩ 0),⟨[]⟩⟩,⟨.type z10,none,(.seq ⟨[]⟩ 0),⟨[]⟩⟩,⟨.none,none,(.func ⟨zs81,zs81,dA p 44 1000,.stmts (dB p 44 1000),dS p 44 1000,0,[],.none,.none,.none,.none,none,.none,.none,0⟩),⟨[]⟩⟩,⟨.type z15,none,(.fields ⟨[.str zs81 1198,.str zs81 1199,.str zs0 1200,.int 362 0,.int 1 0,.int 0 0,.int 0 0,.int 3 0,.ref 690,.bool true,.int 181 0,.ref 691,.none,.ref 692,.ref 693,.ref 694,.int 1202 0,.int 362 0,.str zs0 1203]⟩),⟨[]⟩⟩,⟨.type z20,none,(.func ⟨zs81,zs81,dA p 44 1000,.stmts (dB p 44 1000),dS p 44 1000,3,[],.none,.none,.none,.str zs1 840,none,.ref 695,.none,0⟩),⟨[]⟩⟩,⟨.type z10,none,(.seq ⟨[]⟩ 0),⟨[]⟩⟩,⟨.type z2,none,(.fields ⟨[.builtin z0,.type z8]⟩),⟨[]⟩⟩,⟨.type z5,none,(.dict ⟨[en P zs4 1212 (.str zs1 840),en P zs14 1214 (.str zs37 1213),en P zs6 1216 (.int 366 1215),en P zs2 1226 (.ref 710),en P (S 5 0x656c6f6877) 1233 (.ref 717),en P zs118 1240 (.ref 724),en P zs8 1248 (.ref 731),en P zs7 1252 (.ref 732)]⟩ 8),⟨[]⟩⟩,⟨.type z10,none,(.seq ⟨[]⟩ 0),⟨[]⟩⟩,⟨.none,none,(.fields ⟨[.int 368 0,.int 4 0,.ref 709,.int 373 0,.int 4 0,.ref 716,.int 378 0,.int 4 0,.ref 723,.int 381 0,.int 4 0,.ref 730]⟩),⟨[]⟩⟩,⟨.type z15,none,(.fields ⟨[.str zs37 1207,.str zs37 1208,.str zs0 1209,.int 366 0,.int 0 0,.int 0 0,.int 0 0,.int 0 0,.ref 700,.bool false,.int 181 0,.ref 701,.none,.none,.none,.none,.int 1210 0,.int 366 0,.str zs0 1211]⟩),⟨[]⟩⟩,⟨.type z18,none,.plain,⟨[some (.ref 702),some (.ref 3),some (.ref 699),none,some (.str zs1 840),none,some (.ref 0)]⟩⟩,⟨.type z10,none,(.seq ⟨[]⟩ 0),⟨[]⟩⟩,⟨.none,none,(.fields ⟨[]⟩),⟨[]⟩⟩,⟨.type z10,none,(.seq ⟨[.str zs3 1220,.str (S 4 0x79646f62) 1221,.str (S 6 0x736e69676562) 1222,.str (S 5 0x6c69617274) 1223]⟩ 0),⟨[]⟩⟩,⟨.type z10,none,(.seq ⟨[]⟩ 0),⟨[]⟩⟩,⟨.none,none,(.func ⟨zs2,zs139,dA p 45 0,.stmts (dB p 45 0),dS p 45 0,0,[],.none,.none,.none,.none,none,.none,.none,0⟩),⟨[]⟩⟩,⟨.type z15,none,(.fields ⟨[.str zs2 1217,.str zs139 1218,.str zs0 1219,.int 368 0,.int 4 0,.int 0 0,.int 0 0,.int 3 0,.ref 704,.bool true,.int 181 0,.ref 705,.none,.ref 706,.ref 707,.ref 708,.int 1224 0,.int 368 0,.str zs0 1225]⟩),⟨[]⟩⟩,⟨.type z20,none,(.func ⟨zs2,zs139,dA p 45 0,.stmts (dB p 45 0),dS p 45 0,3,[],.none,.none,.none,.str zs1 840,none,.ref 709,.none,0⟩),⟨[]⟩⟩,⟨.type z10,none,(.seq ⟨[]⟩ 0),⟨[]⟩⟩,⟨.none,none,(.fields ⟨[]⟩),⟨[]⟩⟩,⟨.type z10,none,(.seq ⟨[.str zs3 1230]⟩ 0),⟨[]⟩⟩,⟨.type z10,none,(.seq ⟨[]⟩ 0),⟨[]⟩⟩,⟨.none,none,(.func ⟨S 5 0x656c6f6877,S 13 0x656c6f68772e6e726574746150,dA p 45 1,.stmts (dB p 45 1),dS p 45 1,0,[],.none,.none,.none,.none,none,.none,.none,0⟩),⟨[]⟩⟩,⟨.type z15,none,(.fields ⟨[.str (S 5 0x656c6f6877) 1227,.str (S 13 0x656c6f68772e6e726574746150) 1228,.str zs0 1229,.int 373 0,.int 1 0,.int 0 0,.int 0 0,.int 3 0,.ref 711,.bool true,.int 181 0,.ref 712,.none,.ref 713,.ref 714,.ref 715,.int 1231 0,.int 373 0,.str zs0 1232]⟩),⟨[]⟩⟩,⟨.type z20,none,(.func ⟨S 5 0x656c6f6877,S 13 0x656c6f68772e6e726574746150,dA p 45 1,.stmts (dB p 45 1),dS p 45 1,3,[],.none,.none,.none,.str zs1 840,none,.ref 716,.none,0⟩),⟨[]⟩⟩,⟨.type z10,none,(.seq ⟨[]⟩ 0),⟨[]⟩⟩,⟨.none,none,(.fields ⟨[]⟩),⟨[]⟩⟩,⟨.type z10,none,(.seq ⟨[.str zs3 1237]⟩ 0),⟨[]⟩⟩,⟨.type z10,none,(.seq ⟨[]⟩ 0),⟨[]⟩⟩,⟨.none,none,(.func ⟨zs118,S 19 0x646e655f656e696c5f73692e6e726574746150,dA p 45 2,.stmts (dB p 45 2),dS p 45 2,0,[],.none,.none,.none,.none,none,.none,.none,0⟩),⟨[]⟩⟩,⟨.type z15,none,(.fields ⟨[.str zs118 1234,.str (S 19 0x646e655f656e696c5f73692e6e726574746150) 1235,.str zs0 1236,.int 378 0,.int 1 0,.int 0 0,.int 0 0,.int 3 0,.ref 718,.bool true,.int 181 0,.ref 719,.none,.ref 720,.ref 721,.ref 722,.int 1238 0,.int 378 0,.str zs0 1239]⟩),⟨[]⟩⟩,⟨.type z20,none,(.func ⟨zs118,S 19 0x646e655f656e696c5f73692e6e726574746150,dA p 45 2,.stmts (dB p 45 2),dS p 45 2,3,[],.none,.none,.none,.str zs1 840,none,.ref 723,.none,0⟩),⟨[]⟩⟩,⟨.type z10,none,(.seq ⟨[]⟩ 0),⟨[]⟩⟩,⟨.none,none,(.fields ⟨[]⟩),⟨[]⟩⟩,⟨.type z10,none,(.seq ⟨[.str zs3 1244,.str (S 5 0x6c69617274) 1245]⟩ 0),⟨[]⟩⟩,⟨.type z10,none,(.seq ⟨[]⟩ 0),⟨[]⟩⟩,⟨.none,none,(.func ⟨zs8,S 12 0x646c6f742e6e726574746150,dA p 45 3,.stmts (dB p 45 3),dS p 45 3,0,[],.none,.none,.none,.none,none,.none,.none,0⟩),⟨[]⟩⟩,⟨.type z15,none,(.fields ⟨[.str zs8 1241,.str (S 12 0x646c6f742e6e726574746150) 1242,.str zs0 1243,.int 381 0,.int 1 0,.int 0 0,.int 0 0,.int 3 0,.ref 725,.bool true,.int 181 0,.ref 726,.none,.ref 727,.ref 728,.ref 729,.int 1246 0,.int 381 0,.str zs0 1247]⟩),⟨[]⟩⟩,⟨.type z20,none,(.func ⟨zs8,S 12 0x646c6f742e6e726574746150,dA p 45 3,.stmts (dB p 45 3),dS p 45 3,3,[],.none,.none,.none,.str zs1 840,none,.ref 730,.none,0⟩),⟨[]⟩⟩,⟨.type z10,none,(.seq ⟨[.str (S 6 0x736e69676562) 1249,.str (S 4 0x79646f62) 1250,.str (S 5 0x6c69617274) 1251]⟩ 0),⟨[]⟩⟩,⟨.type z5,none,(.dict ⟨[en P zs4 1212 (.str zs1 840),en P zs6 1216 (.int 366 1215),en P zs2 1226 (.ref 710),en P (S 5 0x656c6f6877) 1233 (.ref 717),en P zs118 1240 (.ref 724),en P zs8 1248 (.ref 731),en P zs7 1252 (.ref 732),en P zs30 1254 (.ref 735),en P zs23 1256 (.ref 736),en P zs5 1257 (.none)]⟩ 4),⟨[]⟩⟩,⟨.type z8,none,(.cls ⟨zs37,[.type z9],[.ref 734,.type z9],733,zs37,true,[],[],false,none,false⟩),⟨[none,none,some (.str zs37 1205),some (.str zs37 1213),some (.builtin z3),some (.bool true)]⟩⟩,⟨.type z6,none,(.fields ⟨[.str zs30 1253,.ref 734,.builtin z17,.builtin z4]⟩),⟨[]⟩⟩,⟨.type z6,none,(.fields ⟨[.str zs23 1255,.ref 734,.builtin z1,.none]⟩),⟨[]⟩⟩,⟨.type z12,none,(.fields ⟨[.ref 734,.ref 734,.ref 734]⟩),⟨[]⟩⟩,⟨.type z2,none,(.fields ⟨[.builtin z13,.ref 734]⟩),⟨[]⟩⟩]
noncomputable def tr12 (p : Program) (P : Params) : BT:=insAll (setAll (tr11 p P) [(3,o3v11 p P),(12,o12v9 p P),(605,o605v2 p P)]) 644 (l12_0 p P)
noncomputable def o3v12 : PPO:=fun p P=>⟨.type z5,none,(.dict ⟨[en P zs25 165 (.str zs1 840),en P zs5 166 (.none),en P zs52 167 (.none),en P zs53 168 (.builtin z19),en P zs54 169 (.none),en P zs26 170 (.ref 6),en P zs55 171 (.ref 4),en P zs56 173 (.str zs0 172),en P zs57 174 (.none),en P zs22 193 (.ref 21),en P zs38 197 (.str zs58 196),en P zs39 200 (.str zs59 199),en P zs40 202 (.str zs60 201),en P zs41 206 (.str zs61 205),en P zs42 209 (.str zs62 208),en P zs43 211 (.str zs63 210),en P zs44 213 (.int 4000 212),en P zs64 235 (.ref 22),en P zs15 275 (.ref 46),en P zs18 287 (.ref 57),en P zs16 325 (.ref 82),en P zs17 341 (.ref 95),en P zs19 501 (.ref 222),en P zs77 505 (.int 127 504),en P zs80 576 (.ref 227),en P zs24 831 (.ref 428),en P zs46 839 (.ref 439),en P zs87 843 (.int 40 842),en P zs88 845 (.int 20 844),en P zs89 847 (.int 0 846),en P (S 3 0x574f52) 849 (.int 1 848),en P zs90 851 (.int 2 850),en P zs91 853 (.str (S 3 0xa0920) 852),en P zs92 855 (.str zs99 854),en P zs93 857 (.str (S 1 0xa) 856),en P zs12 893 (.ref 463),en P zs27 911 (.ref 477),en P zs47 929 (.ref 489),en P zs29 963 (.ref 515),en P zs20 1007 (.ref 548),en P zs31 1025 (.ref 560),en P zs32 1043 (.ref 572),en P zs13 1082 (.ref 605),en P zs33 1100 (.ref 617),en P zs34 1118 (.ref 629),en P zs35 1136 (.ref 641),en P zs78 1173 (.ref 667),en P zs48 1182 (.ref 676),en P zs49 1188 (.ref 682),en P zs50 1197 (.ref 689),en P zs81 1204 (.ref 696),en P zs37 1259 (.ref 734),en P zs82 1265 (.ref 745),en P zs83 1272 (.ref 752),en P zs51 1458 (.ref 879)]⟩ 55),⟨[]⟩⟩
noncomputable def o12v10 : PPO:=fun p P=>⟨.none,none,(.fields ⟨[.int 1 0,.int 0 0,.ref 20,.int 13 0,.int 0 0,.ref 28,.int 22 0,.int 0 0,.ref 56,.int 31 0,.int 0 0,.ref 63,.int 42 0,.int 0 0,.ref 91,.int 44 0,.int 0 0,.ref 103,.int 144 0,.int 0 0,.ref 268,.int 248 0,.int 0 0,.ref 438,.int 262 0,.int 0 0,.ref 445,.int 270 0,.int 0 0,.ref 473,.int 272 0,.int 0 0,.ref 485,.int 274 0,.int 0 0,.ref 497,.int 282 0,.int 0 0,.ref 523,.int 297 0,.int 0 0,.ref 556,.int 299 0,.int 0 0,.ref 568,.int 301 0,.int 0 0,.ref 580,.int 311 0,.int 0 0,.ref 613,.int 313 0,.int 0 0,.ref 625,.int 315 0,.int 0 0,.ref 637,.int 317 0,.int 0 0,.ref 649,.int 331 0,.int 0 0,.ref 675,.int 340 0,.int 0 0,.ref 681,.int 355 0,.int 0 0,.ref 688,.int 362 0,.int 0 0,.ref 695,.int 366 0,.int 0 0,.ref 702,.int 386 0,.int 0 0,.ref 744,.int 388 0,.int 0 0,.ref 751,.int 390 0,.int 0 0,.ref 758]⟩),⟨[]⟩⟩
def l13_0 (p : Program) (P : Params) : List Obj:=[⟨.type z10,none,(.seq ⟨[]⟩ 0),⟨[]⟩⟩,⟨.none,none,(.fields ⟨[]⟩),⟨[]⟩⟩,⟨.type z10,none,(.seq ⟨[]⟩ 0),⟨[]⟩⟩,⟨.type z10,none,(.seq ⟨[]⟩ 0),⟨[]⟩⟩,⟨.none,none,(.func ⟨zs82,zs82,dA p 46 1000,.stmts (dB p 46 1000),dS p 46 1000,0,[],.none,.none,.none,.none,none,.none,.none,0⟩),⟨[]⟩⟩,⟨.type z15,none,(.fields ⟨[.str zs82 1260,.str zs82 1261,.str zs0 1262,.int 386 0,.int 0 0,.int 0 0,.int 0 0,.int 3 0,.ref 739,.bool true,.int 181 0,.ref 740,.none,.ref 741,.ref 742,.ref 743,.int 1263 0,.int 386 0,.str zs0 1264]⟩),⟨[]⟩⟩,⟨.type z20,none,(.func ⟨zs82,zs82,dA p 46 1000,.stmts (dB p 46 1000),dS p 46 1000,3,[],.none,.none,.none,.str zs1 840,none,.ref 744,.none,0⟩),⟨[]⟩⟩,⟨.type z10,none,(.seq ⟨[]⟩ 0),⟨[]⟩⟩,⟨.none,none,(.fields ⟨[]⟩),⟨[]⟩⟩,⟨.type z10,none,(.seq ⟨[.str zs84 1269]⟩ 0),⟨[]⟩⟩,⟨.type z10,none,(.seq ⟨[]⟩ 0),⟨[]⟩⟩,⟨.none,none,(.func ⟨zs83,zs83,dA p 47 1000,.stmts (dB p 47 1000),dS p 47 1000,0,[],.none,.none,.none,.none,none,.none,.none,0⟩),⟨[]⟩⟩,⟨.type z15,none,(.fields ⟨[.str zs83 1266,.str zs83 1267,.str zs0 1268,.int 388 0,.int 1 0,.int 0 0,.int 0 0,.int 3 0,.ref 746,.bool true,.int 181 0,.ref 747,.none,.ref 748,.ref 749,.ref 750,.int 1270 0,.int 388 0,.str zs0 1271]⟩),⟨[]⟩⟩,⟨.type z20,none,(.func ⟨zs83,zs83,dA p 47 1000,.stmts (dB p 47 1000),dS p 47 1000,3,[],.none,.none,.none,.str zs1 840,none,.ref 751,.none,0⟩),⟨[]⟩⟩,⟨.type z10,none,(.seq ⟨[]⟩ 0),⟨[]⟩⟩,⟨.type z2,none,(.fields ⟨[.builtin z0,.type z8]⟩),⟨[]⟩⟩,⟨.type z5,none,(.dict ⟨[en P zs4 1280 (.str zs1 840),en P zs14 1282 (.str zs51 1281),en P zs6 1284 (.int 390 1283),en P zs2 1295 (.ref 766),en P zs100 1304 (.ref 773),en P zs101 1312 (.ref 780),en P zs102 1320 (.ref 787),en P zs103 1328 (.ref 794),en P zs104 1336 (.ref 801),en P zs105 1347 (.ref 808),en P (S 7 0x6465746e756f63) 1358 (.ref 815),en P (S 5 0x746e756f63) 1368 (.ref 822),en P zs106 1379 (.ref 829),en P zs107 1390 (.ref 836),en P zs36 1396 (.ref 841),en P zs108 1405 (.ref 848),en P zs119 1418 (.ref 855),en P (S 5 0x64656d616e) 1427 (.ref 862),en P zs45 1437 (.ref 869),en P (S 6 0x7265626d656d) 1446 (.ref 876),en P zs7 1451 (.ref 877)]⟩ 21),⟨[]⟩⟩,⟨.type z10,none,(.seq ⟨[]⟩ 0),⟨[]⟩⟩,⟨.none,none,(.fields ⟨[.int 392 0,.int 4 0,.ref 765,.int 398 0,.int 4 0,.ref 772,.int 401 0,.int 4 0,.ref 779,.int 405 0,.int 4 0,.ref 786,.int 415 0,.int 4 0,.ref 793,.int 421 0,.int 4 0,.ref 800,.int 427 0,.int 4 0,.ref 807,.int 443 0,.int 4 0,.ref 814,.int 460 0,.int 4 0,.ref 821,.int 469 0,.int 4 0,.ref 828,.int 494 0,.int 4 0,.ref 835,.int 507 0,.int 4 0,.ref 840,.int 519 0,.int 4 0,.ref 847,.int 525 0,.int 4 0,.ref 854,.int 544 0,.int 4 0,.ref 861,.int 552 0,.int 4 0,.ref 868,.int 565 0,.int 4 0,.ref 875]⟩),⟨[]⟩⟩,⟨.type z15,none,(.fields ⟨[.str zs51 1275,.str zs51 1276,.str zs0 1277,.int 390 0,.int 0 0,.int 0 0,.int 0 0,.int 0 0,.ref 756,.bool false,.int 181 0,.ref 757,.none,.none,.none,.none,.int 1278 0,.int 390 0,.str zs0 1279]⟩),⟨[]⟩⟩,⟨.type z18,none,.plain,⟨[some (.ref 758),some (.ref 3),some (.ref 755),none,some (.str zs1 840),none,some (.ref 0)]⟩⟩,⟨.type z10,none,(.seq ⟨[]⟩ 0),⟨[]⟩⟩,⟨.none,none,(.fields ⟨[]⟩),⟨[]⟩⟩,⟨.type z10,none,(.seq ⟨[.str zs3 1288,.str (S 4 0x74786574) 1289,.str (S 2 0x7461) 1290,.str zs154 1291,.str (S 10 0x6e7265747461705f7369) 1292]⟩ 0),⟨[]⟩⟩,⟨.type z10,none,(.seq ⟨[]⟩ 0),⟨[]⟩⟩,⟨.none,none,(.func ⟨zs2,zs140,dA p 48 0,.stmts (dB p 48 0),dS p 48 0,0,[],.none,.none,.none,.none,none,.none,.none,0⟩),⟨[]⟩⟩,⟨.type z15,none,(.fields ⟨[.str zs2 1285,.str zs140 1286,.str zs0 1287,.int 392 0,.int 5 0,.int 0 0,.int 0 0,.int 3 0,.ref 760,.bool true,.int 181 0,.ref 761,.none,.ref 762,.ref 763,.ref 764,.int 1293 0,.int 392 0,.str zs0 1294]⟩),⟨[]⟩⟩,⟨.type z20,none,(.func ⟨zs2,zs140,dA p 48 0,.stmts (dB p 48 0),dS p 48 0,3,[],.none,.none,.none,.str zs1 840,none,.ref 765,.none,0⟩),⟨[]⟩⟩,⟨.type z10,none,(.seq ⟨[]⟩ 0),⟨[]⟩⟩,⟨.none,none,(.fields ⟨[]⟩),⟨[]⟩⟩,⟨.type z10,none,(.seq ⟨[.str zs3 1299,.str (S 4 0x74616877) 1300,.str (S 2 0x7461) 1301]⟩ 0),⟨[]⟩⟩,⟨.type z10,none,(.seq ⟨[]⟩ 0),⟨[]⟩⟩,⟨.none,none,(.func ⟨zs100,zs141,dA p 48 1,.stmts (dB p 48 1),dS p 48 1,0,[],.none,.none,.none,.none,none,.none,.none,0⟩),⟨[]⟩⟩,⟨.type z15,none,(.fields ⟨[.str zs100 1296,.str zs141 1297,.str zs0 1298,.int 398 0,.int 3 0,.int 0 0,.int 0 0,.int 3 0,.ref 767,.bool true,.int 181 0,.ref 768,.none,.ref 769,.ref 770,.ref 771,.int 1302 0,.int 398 0,.str zs0 1303]⟩),⟨[]⟩⟩,⟨.type z20,none,(.func ⟨zs100,zs141,dA p 48 1,.stmts (dB p 48 1),dS p 48 1,3,[],.none,.none,.none,.str zs1 840,none,.ref 772,.none,0⟩),⟨[]⟩⟩,⟨.type z10,none,(.seq ⟨[]⟩ 0),⟨[]⟩⟩,⟨.none,none,(.fields ⟨[]⟩),⟨[]⟩⟩,⟨.type z10,none,(.seq ⟨[.str zs3 1308,.str zs84 1309]⟩ 0),⟨[]⟩⟩,⟨.type z10,none,(.seq ⟨[]⟩ 0),⟨[]⟩⟩,⟨.none,none,(.func ⟨zs101,zs142,dA p 48 2,.stmts (dB p 48 2),dS p 48 2,0,[],.none,.none,.none,.none,none,.none,.none,0⟩),⟨[]⟩⟩,⟨.type z15,none,(.fields ⟨[.str zs101 1305,.str zs142 1306,.str zs0 1307,.int 401 0,.int 1 0,.int 0 0,.int 0 0,.int 3 0,.ref 774,.bool true,.int 181 0,.ref 775,.none,.ref 776,.ref 777,.ref 778,.int 1310 0,.int 401 0,.str zs0 1311]⟩),⟨[]⟩⟩,⟨.type z20,none,(.func ⟨zs101,zs142,dA p 48 2,.stmts (dB p 48 2),dS p 48 2,3,[],.none,.none,.none,.str zs1 840,none,.ref 779,.none,0⟩),⟨[]⟩⟩,⟨.type z10,none,(.seq ⟨[]⟩ 0),⟨[]⟩⟩,⟨.none,none,(.fields ⟨[]⟩),⟨[]⟩⟩,⟨.type z10,none,(.seq ⟨[.str zs3 1316,.str zs84 1317]⟩ 0),⟨[]⟩⟩,⟨.type z10,none,(.seq ⟨[]⟩ 0),⟨[]⟩⟩,⟨.none,none,(.func ⟨zs102,zs143,dA p 48 3,.stmts (dB p 48 3),dS p 48 3,0,[],.none,.none,.none,.none,none,.none,.none,0⟩),⟨[]⟩⟩,⟨.type z15,none,(.fields ⟨[.str zs102 1313,.str zs143 1314,.str zs0 1315,.int 405 0,.int 1 0,.int 0 0,.int 0 0,.int 3 0,.ref 781,.bool true,.int 181 0,.ref 782,.none,.ref 783,.ref 784,.ref 785,.int 1318 0,.int 405 0,.str zs0 1319]⟩),⟨[]⟩⟩,⟨.type z20,none,(.func ⟨zs102,zs143,dA p 48 3,.stmts (dB p 48 3),dS p 48 3,3,[],.none,.none,.none,.str zs1 840,none,.ref 786,.none,0⟩),⟨[]⟩⟩,⟨.type z10,none,(.seq ⟨[]⟩ 0),⟨[]⟩⟩,⟨.none,none,(.fields ⟨[]⟩),⟨[]⟩⟩,⟨.type z10,none,(.seq ⟨[.str zs3 1324,.str zs94 1325]⟩ 0),⟨[]⟩⟩,⟨.type z10,none,(.seq ⟨[]⟩ 0),⟨[]⟩⟩,⟨.none,none,(.func ⟨zs103,zs144,dA p 48 4,.stmts (dB p 48 4),dS p 48 4,0,[],.none,.none,.none,.none,none,.none,.none,0⟩),⟨[]⟩⟩,⟨.type z15,none,(.fields ⟨[.str zs103 1321,.str zs144 1322,.str zs0 1323,.int 415 0,.int 1 0,.int 0 0,.int 0 0,.int 3 0,.ref 788,.bool true,.int 181 0,.ref 789,.none,.ref 790,.ref 791,.ref 792,.int 1326 0,.int 415 0,.str zs0 1327]⟩),⟨[]⟩⟩,⟨.type z20,none,(.func ⟨zs103,zs144,dA p 48 4,.stmts (dB p 48 4),dS p 48 4,3,[],.none,.none,.none,.str zs1 840,none,.ref 793,.none,0⟩),⟨[]⟩⟩,⟨.type z10,none,(.seq ⟨[]⟩ 0),⟨[]⟩⟩,⟨.none,none,(.fields ⟨[]⟩),⟨[]⟩⟩,⟨.type z10,none,(.seq ⟨[.str zs3 1332,.str (S 3 0x776f72) 1333]⟩ 0),⟨[]⟩⟩,⟨.type z10,none,(.seq ⟨[]⟩ 0),⟨[]⟩⟩,⟨.none,none,(.func ⟨zs104,zs145,dA p 48 5,.stmts (dB p 48 5),dS p 48 5,0,[],.none,.none,.none,.none,none,.none,.none,0⟩),⟨[]⟩⟩,⟨.type z15,none,(.fields ⟨[.str zs104 1329,.str zs145 1330,.str zs0 1331,.int 421 0,.int 1 0,.int 0 0,.int 0 0,.int 3 0,.ref 795,.bool true,.int 181 0,.ref 796,.none,.ref 797,.ref 798,.ref 799,.int 1334 0,.int 421 0,.str zs0 1335]⟩),⟨[]⟩⟩,⟨.type z20,none,(.func ⟨zs104,zs145,dA p 48 5,.stmts (dB p 48 5),dS p 48 5,3,[],.none,.none,.none,.str zs1 840,none,.ref 800,.none,0⟩),⟨[]⟩⟩,⟨.type z10,none,(.seq ⟨[]⟩ 0),⟨[]⟩⟩,⟨.none,none,(.fields ⟨[]⟩),⟨[]⟩⟩,⟨.type z10,none,(.seq ⟨[.str zs3 1340,.str (S 4 0x74726170) 1341,.str zs94 1342,.str (S 4 0x6e727574) 1343,.str zs65 1344]⟩ 0),⟨[]⟩⟩,⟨.type z10,none,(.seq ⟨[]⟩ 0),⟨[]⟩⟩,⟨.none,none,(.func ⟨zs105,zs146,dA p 48 6,.stmts (dB p 48 6),dS p 48 6,0,[],.none,.none,.none,.none,none,.none,.none,0⟩),⟨[]⟩⟩,⟨.type z15,none,(.fields ⟨[.str zs105 1337,.str zs146 1338,.str zs0 1339,.int 427 0,.int 2 0,.int 0 0,.int 0 0,.int 3 0,.ref 802,.bool true,.int 181 0,.ref 803,.none,.ref 804,.ref 805,.ref 806,.int 1345 0,.int 427 0,.str zs0 1346]⟩),⟨[]⟩⟩,⟨.type z20,none,(.func ⟨zs105,zs146,dA p 48 6,.stmts (dB p 48 6),dS p 48 6,3,[],.none,.none,.none,.str zs1 840,none,.ref 807,.none,0⟩),⟨[]⟩⟩,⟨.type z10,none,(.seq ⟨[]⟩ 0),⟨[]⟩⟩,⟨.none,none,(.fields ⟨[]⟩),⟨[]⟩⟩,⟨.type z10,none,(.seq ⟨[.str zs3 1351,.str (S 4 0x79646f62) 1352,.str (S 7 0x676e696e65706f) 1353,.str (S 3 0x776f6c) 1354,.str zs86 1355]⟩ 0),⟨[]⟩⟩,⟨.type z10,none,(.seq ⟨[]⟩ 0),⟨[]⟩⟩,⟨.none,none,(.func ⟨S 7 0x6465746e756f63,S 19 0x6465746e756f632e7265646165527865676552,dA p 48 7,.stmts (dB p 48 7),dS p 48 7,0,[],.none,.none,.none,.none,none,.none,.none,0⟩),⟨[]⟩⟩,⟨.type z15,none,(.fields ⟨[.str (S 7 0x6465746e756f63) 1348,.str (S 19 0x6465746e756f632e7265646165527865676552) 1349,.str zs0 1350,.int 443 0,.int 2 0,.int 0 0,.int 0 0,.int 3 0,.ref 809,.bool true,.int 181 0,.ref 810,.none,.ref 811,.ref 812,.ref 813,.int 1356 0,.int 443 0,.str zs0 1357]⟩),⟨[]⟩⟩,⟨.type z20,none,(.func ⟨S 7 0x6465746e756f63,S 19 0x6465746e756f632e7265646165527865676552,dA p 48 7,.stmts (dB p 48 7),dS p 48 7,3,[],.none,.none,.none,.str zs1 840,none,.ref 814,.none,0⟩),⟨[]⟩⟩,⟨.type z10,none,(.seq ⟨[]⟩ 0),⟨[]⟩⟩,⟨.none,none,(.fields ⟨[]⟩),⟨[]⟩⟩,⟨.type z10,none,(.seq ⟨[.str zs3 1362,.str zs65 1363,.str zs98 1364,.str (S 6 0x657275676966) 1365]⟩ 0),⟨[]⟩⟩,⟨.type z10,none,(.seq ⟨[]⟩ 0),⟨[]⟩⟩,⟨.none,none,(.func ⟨S 5 0x746e756f63,S 17 0x746e756f632e7265646165527865676552,dA p 48 8,.stmts (dB p 48 8),dS p 48 8,0,[],.none,.none,.none,.none,none,.none,.none,0⟩),⟨[]⟩⟩,⟨.type z15,none,(.fields ⟨[.str (S 5 0x746e756f63) 1359,.str (S 17 0x746e756f632e7265646165527865676552) 1360,.str zs0 1361,.int 460 0,.int 1 0,.int 0 0,.int 0 0,.int 3 0,.ref 816,.bool true,.int 181 0,.ref 817,.none,.ref 818,.ref 819,.ref 820,.int 1366 0,.int 460 0,.str zs0 1367]⟩),⟨[]⟩⟩,⟨.type z20,none,(.func ⟨S 5 0x746e756f63,S 17 0x746e756f632e7265646165527865676552,dA p 48 8,.stmts (dB p 48 8),dS p 48 8,3,[],.none,.none,.none,.str zs1 840,none,.ref 821,.none,0⟩),⟨[]⟩⟩,⟨.type z10,none,(.seq ⟨[]⟩ 0),⟨[]⟩⟩,⟨.none,none,(.fields ⟨[]⟩),⟨[]⟩⟩,⟨.type z10,none,(.seq ⟨[.str zs3 1372,.str zs65 1373,.str zs84 1374,.str zs94 1375,.str (S 4 0x65646f63) 1376]⟩ 0),⟨[]⟩⟩,⟨.type z10,none,(.seq ⟨[]⟩ 0),⟨[]⟩⟩,⟨.none,none,(.func ⟨zs106,zs147,dA p 48 9,.stmts (dB p 48 9),dS p 48 9,0,[],.none,.none,.none,.none,none,.none,.none,0⟩),⟨[]⟩⟩,⟨.type z15,none,(.fields ⟨[.str zs106 1369,.str zs147 1370,.str zs0 1371,.int 469 0,.int 1 0,.int 0 0,.int 0 0,.int 3 0,.ref 823,.bool true,.int 181 0,.ref 824,.none,.ref 825,.ref 826,.ref 827,.int 1377 0,.int 469 0,.str zs0 1378]⟩),⟨[]⟩⟩,⟨.type z20,none,(.func ⟨zs106,zs147,dA p 48 9,.stmts (dB p 48 9),dS p 48 9,3,[],.none,.none,.none,.str zs1 840,none,.ref 828,.none,0⟩),⟨[]⟩⟩,⟨.type z10,none,(.seq ⟨[]⟩ 0),⟨[]⟩⟩,⟨.none,none,(.fields ⟨[]⟩),⟨[]⟩⟩,⟨.type z10,none,(.seq ⟨[.str zs3 1383,.str zs84 1384,.str zs65 1385,.str zs8 1386,.str (S 4 0x65646f63) 1387]⟩ 0),⟨[]⟩⟩,⟨.type z10,none,(.seq ⟨[]⟩ 0),⟨[]⟩⟩,⟨.none,none,(.func ⟨zs107,zs148,dA p 48 10,.stmts (dB p 48 10),dS p 48 10,0,[],.none,.none,.none,.none,none,.none,.none,0⟩),⟨[]⟩⟩,⟨.type z15,none,(.fields ⟨[.str zs107 1380,.str zs148 1381,.str zs0 1382,.int 494 0,.int 3 0,.int 0 0,.int 0 0,.int 3 0,.ref 830,.bool true,.int 181 0,.ref 831,.none,.ref 832,.ref 833,.ref 834,.int 1388 0,.int 494 0,.str zs0 1389]⟩),⟨[]⟩⟩,⟨.type z20,none,(.func ⟨zs107,zs148,dA p 48 10,.stmts (dB p 48 10),dS p 48 10,3,[],.none,.none,.none,.str zs1 840,none,.ref 835,.none,0⟩),⟨[]⟩⟩,⟨.type z10,none,(.seq ⟨[]⟩ 0),⟨[]⟩⟩,⟨.none,none,(.fields ⟨[]⟩),⟨[]⟩⟩,⟨.none,none,(.func ⟨zs36,zs149,dA p 48 11,.stmts (dB p 48 11),dS p 48 11,0,[],.none,.none,.none,.none,none,.none,.none,0⟩),⟨[]⟩⟩,⟨.type z15,none,(.fields ⟨[.str zs36 1391,.str zs149 1392,.str zs0 1393,.int 507 0,.int 2 0,.int 0 0,.int 0 0,.int 3 0,.ref 837,.bool true,.int 181 0,.ref 838,.none,.none,.none,.ref 839,.int 1394 0,.int 507 0,.str zs0 1395]⟩),⟨[]⟩⟩,⟨.type z20,none,(.func ⟨zs36,zs149,dA p 48 11,.stmts (dB p 48 11),dS p 48 11,3,[],.none,.none,.none,.str zs1 840,none,.ref 840,.none,0⟩),⟨[]⟩⟩,⟨.type z10,none,(.seq ⟨[]⟩ 0),⟨[]⟩⟩,⟨.none,none,(.fields ⟨[]⟩),⟨[]⟩⟩,⟨.type z10,none,(.seq ⟨[.str zs3 1400,.str zs65 1401,.str (S 4 0x64726f77) 1402]⟩ 0),⟨[]⟩⟩,⟨.type z10,none,(.seq ⟨[]⟩ 0),⟨[]⟩⟩,⟨.none,none,(.func ⟨zs108,zs150,dA p 48 12,.stmts (dB p 48 12),dS p 48 12,0,[],.none,.none,.none,.none,none,.none,.none,0⟩),⟨[]⟩⟩,⟨.type z15,none,(.fields ⟨[.str zs108 1397,.str zs150 1398,.str zs0 1399,.int 519 0,.int 2 0,.int 0 0,.int 0 0,.int 3 0,.ref 842,.bool true,.int 181 0,.ref 843,.none,.ref 844,.ref 845,.ref 846,.int 1403 0,.int 519 0,.str zs0 1404]⟩),⟨[]⟩⟩,⟨.type z20,none,(.func ⟨zs108,zs150,dA p 48 12,.stmts (dB p 48 12),dS p 48 12,3,[],.none,.none,.none,.str zs1 840,none,.ref 847,.none,0⟩),⟨[]⟩⟩,⟨.type z10,none,(.seq ⟨[]⟩ 0),⟨[]⟩⟩,⟨.none,none,(.fields ⟨[]⟩),⟨[]⟩⟩,⟨.type z10,none,(.seq ⟨[.str zs3 1409,.str zs65 1410,.str (S 9 0x64656e7275745f7369) 1411,.str (S 5 0x7372696170) 1412,.str (S 8 0x74737269665f7369) 1413,.str (S 4 0x72696170) 1414,.str (S 7 0x74657372616863) 1415]⟩ 0),⟨[]⟩⟩,⟨.type z10,none,(.seq ⟨[]⟩ 0),⟨[]⟩⟩,⟨.none,none,(.func ⟨zs119,S 22 0x7373616c635f6e6769732e7265646165527865676552,dA p 48 13,.stmts (dB p 48 13),dS p 48 13,0,[],.none,.none,.none,.none,none,.none,.none,0⟩),⟨[]⟩⟩,⟨.type z15,none,(.fields ⟨[.str zs119 1406,.str (S 22 0x7373616c635f6e6769732e7265646165527865676552) 1407,.str zs0 1408,.int 525 0,.int 2 0,.int 0 0,.int 0 0,.int 3 0,.ref 849,.bool true,.int 181 0,.ref 850,.none,.ref 851,.ref 852,.ref 853,.int 1416 0,.int 525 0,.str zs0 1417]⟩),⟨[]⟩⟩,⟨.type z20,none,(.func ⟨zs119,S 22 0x7373616c635f6e6769732e7265646165527865676552,dA p 48 13,.stmts (dB p 48 13),dS p 48 13,3,[],.none,.none,.none,.str zs1 840,none,.ref 854,.none,0⟩),⟨[]⟩⟩,⟨.type z10,none,(.seq ⟨[]⟩ 0),⟨[]⟩⟩,⟨.none,none,(.fields ⟨[]⟩),⟨[]⟩⟩,⟨.type z10,none,(.seq ⟨[.str zs3 1422,.str zs65 1423,.str (S 7 0x74657372616863) 1424]⟩ 0),⟨[]⟩⟩,⟨.type z10,none,(.seq ⟨[]⟩ 0),⟨[]⟩⟩,⟨.none,none,(.func ⟨S 5 0x64656d616e,S 17 0x64656d616e2e7265646165527865676552,dA p 48 14,.stmts (dB p 48 14),dS p 48 14,0,[],.none,.none,.none,.none,none,.none,.none,0⟩),⟨[]⟩⟩,⟨.type z15,none,(.fields ⟨[.str (S 5 0x64656d616e) 1419,.str (S 17 0x64656d616e2e7265646165527865676552) 1420,.str zs0 1421,.int 544 0,.int 1 0,.int 0 0,.int 0 0,.int 3 0,.ref 856,.bool true,.int 181 0,.ref 857,.none,.ref 858,.ref 859,.ref 860,.int 1425 0,.int 544 0,.str zs0 1426]⟩),⟨[]⟩⟩,⟨.type z20,none,(.func ⟨S 5 0x64656d616e,S 17 0x64656d616e2e7265646165527865676552,dA p 48 14,.stmts (dB p 48 14),dS p 48 14,3,[],.none,.none,.none,.str zs1 840,none,.ref 861,.none,0⟩),⟨[]⟩⟩,⟨.type z10,none,(.seq ⟨[]⟩ 0),⟨[]⟩⟩,⟨.none,none,(.fields ⟨[]⟩),⟨[]⟩⟩,⟨.type z10,none,(.seq ⟨[.str zs3 1431,.str zs65 1432,.str (S 3 0x776f6c) 1433,.str zs86 1434]⟩ 0),⟨[]⟩⟩,⟨.type z10,none,(.seq ⟨[]⟩ 0),⟨[]⟩⟩,⟨.none,none,(.func ⟨zs45,S 16 0x6e6170732e7265646165527865676552,dA p 48 15,.stmts (dB p 48 15),dS p 48 15,0,[],.none,.none,.none,.none,none,.none,.none,0⟩),⟨[]⟩⟩,⟨.type z15,none,(.fields ⟨[.str zs45 1428,.str (S 16 0x6e6170732e7265646165527865676552) 1429,.str zs0 1430,.int 552 0,.int 1 0,.int 0 0,.int 0 0,.int 3 0,.ref 863,.bool true,.int 181 0,.ref 864,.none,.ref 865,.ref 866,.ref 867,.int 1435 0,.int 552 0,.str zs0 1436]⟩),⟨[]⟩⟩,⟨.type z20,none,(.func ⟨zs45,S 16 0x6e6170732e7265646165527865676552,dA p 48 15,.stmts (dB p 48 15),dS p 48 15,3,[],.none,.none,.none,.str zs1 840,none,.ref 868,.none,0⟩),⟨[]⟩⟩,⟨.type z10,none,(.seq ⟨[]⟩ 0),⟨[]⟩⟩,⟨.none,none,(.fields ⟨[]⟩),⟨[]⟩⟩,⟨.type z10,none,(.seq ⟨[.str zs3 1441,.str zs65 1442,.str zs84 1443]⟩ 0),⟨[]⟩⟩,⟨.type z10,none,(.seq ⟨[]⟩ 0),⟨[]⟩⟩,⟨.none,none,(.func ⟨S 6 0x7265626d656d,S 18 0x7265626d656d2e7265646165527865676552,dA p 48 16,.stmts (dB p 48 16),dS p 48 16,0,[],.none,.none,.none,.none,none,.none,.none,0⟩),⟨[]⟩⟩,⟨.type z15,none,(.fields ⟨[.str (S 6 0x7265626d656d) 1438,.str (S 18 0x7265626d656d2e7265646165527865676552) 1439,.str zs0 1440,.int 565 0,.int 1 0,.int 0 0,.int 0 0,.int 3 0,.ref 870,.bool true,.int 181 0,.ref 871,.none,.ref 872,.ref 873,.ref 874,.int 1444 0,.int 565 0,.str zs0 1445]⟩),⟨[]⟩⟩,⟨.type z20,none,(.func ⟨S 6 0x7265626d656d,S 18 0x7265626d656d2e7265646165527865676552,dA p 48 16,.stmts (dB p 48 16),dS p 48 16,3,[],.none,.none,.none,.str zs1 840,none,.ref 875,.none,0⟩),⟨[]⟩⟩,⟨.type z10,none,(.seq ⟨[.str (S 6 0x726f73727563) 1447,.str zs154 1448,.str (S 5 0x6874706564) 1449,.str (S 10 0x6e7265747461705f7369) 1450]⟩ 0),⟨[]⟩⟩,⟨.type z5,none,(.dict ⟨[en P zs4 1280 (.str zs1 840),en P zs6 1284 (.int 390 1283),en P zs2 1295 (.ref 766),en P zs100 1304 (.ref 773),en P zs101 1312 (.ref 780),en P zs102 1320 (.ref 787),en P zs103 1328 (.ref 794),en P zs104 1336 (.ref 801),en P zs105 1347 (.ref 808),en P (S 7 0x6465746e756f63) 1358 (.ref 815),en P (S 5 0x746e756f63) 1368 (.ref 822),en P zs106 1379 (.ref 829),en P zs107 1390 (.ref 836),en P zs36 1396 (.ref 841),en P zs108 1405 (.ref 848),en P zs119 1418 (.ref 855),en P (S 5 0x64656d616e) 1427 (.ref 862),en P zs45 1437 (.ref 869),en P (S 6 0x7265626d656d) 1446 (.ref 876),en P zs7 1451 (.ref 877),en P zs30 1453 (.ref 880),en P zs23 1455 (.ref 881),en P zs5 1456 (.none)]⟩ 4),⟨[]⟩⟩,⟨.type z8,none,(.cls ⟨zs51,[.type z9],[.ref 879,.type z9],878,zs51,true,[],[],false,none,false⟩),⟨[none,none,some (.str zs51 1273),some (.str zs51 1281),some (.builtin z3),some (.bool true)]⟩⟩,⟨.type z6,none,(.fields ⟨[.str zs30 1452,.ref 879,.builtin z17,.builtin z4]⟩),⟨[]⟩⟩,⟨.type z6,none,(.fields ⟨[.str zs23 1454,.ref 879,.builtin z1,.none]⟩),⟨[]⟩⟩,⟨.type z12,none,(.fields ⟨[.ref 879,.ref 879,.ref 879]⟩),⟨[]⟩⟩,⟨.type z2,none,(.fields ⟨[.builtin z13,.ref 879]⟩),⟨[]⟩⟩]
noncomputable def tr13 (p : Program) (P : Params) : BT:=insAll (setAll (tr12 p P) [(3,o3v12 p P),(12,o12v10 p P)]) 739 (l13_0 p P)
noncomputable def o3v13 : PPO:=fun p P=>⟨.type z5,none,(.dict ⟨[en P zs25 165 (.str zs21 1486),en P zs5 166 (.none),en P zs52 167 (.none),en P zs53 168 (.builtin z19),en P zs54 169 (.none),en P zs26 170 (.ref 6),en P zs55 171 (.ref 4),en P zs56 173 (.str zs0 172),en P zs57 174 (.none),en P zs22 193 (.ref 21),en P zs38 197 (.str zs58 196),en P zs39 200 (.str zs59 199),en P zs40 202 (.str zs60 201),en P zs41 206 (.str zs61 205),en P zs42 209 (.str zs62 208),en P zs43 211 (.str zs63 210),en P zs44 213 (.int 4000 212),en P zs64 235 (.ref 22),en P zs15 275 (.ref 46),en P zs18 287 (.ref 57),en P zs16 325 (.ref 82),en P zs17 341 (.ref 95),en P zs19 501 (.ref 222),en P zs77 505 (.int 127 504),en P zs80 576 (.ref 227),en P zs24 831 (.ref 428),en P zs46 839 (.ref 439),en P zs87 843 (.int 40 842),en P zs88 845 (.int 20 844),en P zs89 847 (.int 0 846),en P (S 3 0x574f52) 849 (.int 1 848),en P zs90 851 (.int 2 850),en P zs91 853 (.str (S 3 0xa0920) 852),en P zs92 855 (.str zs99 854),en P zs93 857 (.str (S 1 0xa) 856),en P zs12 893 (.ref 463),en P zs27 911 (.ref 477),en P zs47 929 (.ref 489),en P zs29 963 (.ref 515),en P zs20 1007 (.ref 548),en P zs31 1025 (.ref 560),en P zs32 1043 (.ref 572),en P zs13 1082 (.ref 605),en P zs33 1100 (.ref 617),en P zs34 1118 (.ref 629),en P zs35 1136 (.ref 641),en P zs78 1173 (.ref 667),en P zs48 1182 (.ref 676),en P zs49 1188 (.ref 682),en P zs50 1197 (.ref 689),en P zs81 1204 (.ref 696),en P zs37 1259 (.ref 734),en P zs82 1265 (.ref 745),en P zs83 1272 (.ref 752),en P zs51 1458 (.ref 879),en P zs66 1468 (.ref 891),en P zs67 1485 (.ref 899),en P zs68 1496 (.ref 906),en P zs69 1505 (.ref 913),en P zs70 1512 (.ref 920),en P zs71 1519 (.ref 927),en P zs72 1527 (.ref 934),en P zs73 1536 (.ref 941),en P zs74 1547 (.ref 948),en P zs75 1558 (.ref 955),en P zs76 1569 (.ref 962),en P zs79 1575 (.ref 967)]⟩ 67),⟨[]⟩⟩
noncomputable def o12v11 : PPO:=fun p P=>⟨.none,none,(.fields ⟨[.int 1 0,.int 0 0,.ref 20,.int 13 0,.int 0 0,.ref 28,.int 22 0,.int 0 0,.ref 56,.int 31 0,.int 0 0,.ref 63,.int 42 0,.int 0 0,.ref 91,.int 44 0,.int 0 0,.ref 103,.int 144 0,.int 0 0,.ref 268,.int 248 0,.int 0 0,.ref 438,.int 262 0,.int 0 0,.ref 445,.int 270 0,.int 0 0,.ref 473,.int 272 0,.int 0 0,.ref 485,.int 274 0,.int 0 0,.ref 497,.int 282 0,.int 0 0,.ref 523,.int 297 0,.int 0 0,.ref 556,.int 299 0,.int 0 0,.ref 568,.int 301 0,.int 0 0,.ref 580,.int 311 0,.int 0 0,.ref 613,.int 313 0,.int 0 0,.ref 625,.int 315 0,.int 0 0,.ref 637,.int 317 0,.int 0 0,.ref 649,.int 331 0,.int 0 0,.ref 675,.int 340 0,.int 0 0,.ref 681,.int 355 0,.int 0 0,.ref 688,.int 362 0,.int 0 0,.ref 695,.int 366 0,.int 0 0,.ref 702,.int 386 0,.int 0 0,.ref 744,.int 388 0,.int 0 0,.ref 751,.int 390 0,.int 0 0,.ref 758,.int 571 0,.int 0 0,.ref 890,.int 579 0,.int 0 0,.ref 898,.int 606 0,.int 0 0,.ref 905,.int 611 0,.int 0 0,.ref 912,.int 618 0,.int 0 0,.ref 919,.int 620 0,.int 0 0,.ref 926,.int 628 0,.int 0 0,.ref 933,.int 630 0,.int 0 0,.ref 940,.int 635 0,.int 0 0,.ref 947,.int 641 0,.int 0 0,.ref 954,.int 656 0,.int 0 0,.ref 961,.int 665 0,.int 0 0,.ref 966]⟩),⟨[]⟩⟩
def l14_0 (p : Program) (P : Params) : List Obj:=[⟨.type z10,none,(.seq ⟨[.none]⟩ 0),⟨[]⟩⟩,⟨.type z10,none,(.seq ⟨[]⟩ 0),⟨[]⟩⟩,⟨.none,none,(.fields ⟨[]⟩),⟨[]⟩⟩,⟨.type z10,none,(.seq ⟨[.str (S 4 0x74786574) 1462,.str zs154 1463,.str (S 6 0x726564616572) 1464,.str zs94 1465]⟩ 0),⟨[]⟩⟩,⟨.type z10,none,(.seq ⟨[]⟩ 0),⟨[]⟩⟩,⟨.none,none,(.func ⟨zs66,zs66,dA p 49 1000,.stmts (dB p 49 1000),dS p 49 1000,0,[],.none,.none,.none,.none,none,.none,.none,0⟩),⟨[]⟩⟩,⟨.type z15,none,(.fields ⟨[.str zs66 1459,.str zs66 1460,.str zs0 1461,.int 571 0,.int 2 0,.int 0 0,.int 0 0,.int 3 0,.ref 885,.bool true,.int 181 0,.ref 886,.none,.ref 887,.ref 888,.ref 889,.int 1466 0,.int 571 0,.str zs0 1467]⟩),⟨[]⟩⟩,⟨.type z20,none,(.func ⟨zs66,zs66,dA p 49 1000,.stmts (dB p 49 1000),dS p 49 1000,3,[],.ref 884,.none,.none,.str zs1 840,none,.ref 890,.none,0⟩),⟨[]⟩⟩,⟨.type z10,none,(.seq ⟨[.none]⟩ 0),⟨[]⟩⟩,⟨.type z10,none,(.seq ⟨[]⟩ 0),⟨[]⟩⟩,⟨.none,none,(.fields ⟨[]⟩),⟨[]⟩⟩,⟨.type z10,none,(.seq ⟨[.str (S 4 0x74786574) 1472,.str (S 2 0x7461) 1473,.str zs154 1474,.str (S 6 0x726564616572) 1475,.str (S 6 0x726f73727563) 1476,.str (S 6 0x736e69676562) 1477,.str zs65 1478,.str (S 4 0x79646f62) 1479,.str (S 5 0x6c69617274) 1480,.str (S 5 0x6873616c73) 1481,.str (S 6 0x72616c6c6f64) 1482]⟩ 0),⟨[]⟩⟩,⟨.type z10,none,(.seq ⟨[]⟩ 0),⟨[]⟩⟩,⟨.none,none,(.func ⟨zs67,zs67,dA p 50 1000,.stmts (dB p 50 1000),dS p 50 1000,0,[],.none,.none,.none,.none,none,.none,.none,0⟩),⟨[]⟩⟩,⟨.type z15,none,(.fields ⟨[.str zs67 1469,.str zs67 1470,.str zs0 1471,.int 579 0,.int 3 0,.int 0 0,.int 0 0,.int 3 0,.ref 893,.bool true,.int 181 0,.ref 894,.none,.ref 895,.ref 896,.ref 897,.int 1483 0,.int 579 0,.str zs0 1484]⟩),⟨[]⟩⟩,⟨.type z20,none,(.func ⟨zs67,zs67,dA p 50 1000,.stmts (dB p 50 1000),dS p 50 1000,3,[],.ref 892,.none,.none,.str zs1 840,none,.ref 898,.none,0⟩),⟨[]⟩⟩,⟨.type z10,none,(.seq ⟨[]⟩ 0),⟨[]⟩⟩,⟨.none,none,(.fields ⟨[]⟩),⟨[]⟩⟩,⟨.type z10,none,(.seq ⟨[.str (S 6 0x747069726373) 1491,.str zs98 1492,.str (S 4 0x6c6c6563) 1493]⟩ 0),⟨[]⟩⟩,⟨.type z10,none,(.seq ⟨[]⟩ 0),⟨[]⟩⟩,⟨.none,none,(.func ⟨zs68,zs68,dA p 52 1000,.stmts (dB p 52 1000),dS p 52 1000,0,[],.none,.none,.none,.none,none,.none,.none,0⟩),⟨[]⟩⟩,⟨.type z15,none,(.fields ⟨[.str zs68 1488,.str zs68 1489,.str zs0 1490,.int 606 0,.int 1 0,.int 0 0,.int 0 0,.int 3 0,.ref 900,.bool true,.int 181 0,.ref 901,.none,.ref 902,.ref 903,.ref 904,.int 1494 0,.int 606 0,.str zs0 1495]⟩),⟨[]⟩⟩,⟨.type z20,none,(.func ⟨zs68,zs68,dA p 52 1000,.stmts (dB p 52 1000),dS p 52 1000,3,[],.none,.none,.none,.str zs21 1486,none,.ref 905,.none,0⟩),⟨[]⟩⟩,⟨.type z10,none,(.seq ⟨[]⟩ 0),⟨[]⟩⟩,⟨.none,none,(.fields ⟨[]⟩),⟨[]⟩⟩,⟨.type z10,none,(.seq ⟨[.str (S 4 0x6c696170) 1500,.str (S 4 0x74736f6d) 1501,.str (S 5 0x7469676964) 1502]⟩ 0),⟨[]⟩⟩,⟨.type z10,none,(.seq ⟨[]⟩ 0),⟨[]⟩⟩,⟨.none,none,(.func ⟨zs69,zs69,dA p 53 1000,.stmts (dB p 53 1000),dS p 53 1000,0,[],.none,.none,.none,.none,none,.none,.none,0⟩),⟨[]⟩⟩,⟨.type z15,none,(.fields ⟨[.str zs69 1497,.str zs69 1498,.str zs0 1499,.int 611 0,.int 2 0,.int 0 0,.int 0 0,.int 3 0,.ref 907,.bool true,.int 181 0,.ref 908,.none,.ref 909,.ref 910,.ref 911,.int 1503 0,.int 611 0,.str zs0 1504]⟩),⟨[]⟩⟩,⟨.type z20,none,(.func ⟨zs69,zs69,dA p 53 1000,.stmts (dB p 53 1000),dS p 53 1000,3,[],.none,.none,.none,.str zs21 1486,none,.ref 912,.none,0⟩),⟨[]⟩⟩,⟨.type z10,none,(.seq ⟨[]⟩ 0),⟨[]⟩⟩,⟨.none,none,(.fields ⟨[]⟩),⟨[]⟩⟩,⟨.type z10,none,(.seq ⟨[.str (S 6 0x72657474656c) 1509]⟩ 0),⟨[]⟩⟩,⟨.type z10,none,(.seq ⟨[]⟩ 0),⟨[]⟩⟩,⟨.none,none,(.func ⟨zs70,zs70,dA p 54 1000,.stmts (dB p 54 1000),dS p 54 1000,0,[],.none,.none,.none,.none,none,.none,.none,0⟩),⟨[]⟩⟩,⟨.type z15,none,(.fields ⟨[.str zs70 1506,.str zs70 1507,.str zs0 1508,.int 618 0,.int 1 0,.int 0 0,.int 0 0,.int 3 0,.ref 914,.bool true,.int 181 0,.ref 915,.none,.ref 916,.ref 917,.ref 918,.int 1510 0,.int 618 0,.str zs0 1511]⟩),⟨[]⟩⟩,⟨.type z20,none,(.func ⟨zs70,zs70,dA p 54 1000,.stmts (dB p 54 1000),dS p 54 1000,3,[],.none,.none,.none,.str zs21 1486,none,.ref 919,.none,0⟩),⟨[]⟩⟩,⟨.type z10,none,(.seq ⟨[]⟩ 0),⟨[]⟩⟩,⟨.none,none,(.fields ⟨[]⟩),⟨[]⟩⟩,⟨.type z10,none,(.seq ⟨[.str (S 3 0x796177) 1516]⟩ 0),⟨[]⟩⟩,⟨.type z10,none,(.seq ⟨[]⟩ 0),⟨[]⟩⟩,⟨.none,none,(.func ⟨zs71,zs71,dA p 55 1000,.stmts (dB p 55 1000),dS p 55 1000,0,[],.none,.none,.none,.none,none,.none,.none,0⟩),⟨[]⟩⟩,⟨.type z15,none,(.fields ⟨[.str zs71 1513,.str zs71 1514,.str zs0 1515,.int 620 0,.int 1 0,.int 0 0,.int 0 0,.int 3 0,.ref 921,.bool true,.int 181 0,.ref 922,.none,.ref 923,.ref 924,.ref 925,.int 1517 0,.int 620 0,.str zs0 1518]⟩),⟨[]⟩⟩,⟨.type z20,none,(.func ⟨zs71,zs71,dA p 55 1000,.stmts (dB p 55 1000),dS p 55 1000,3,[],.none,.none,.none,.str zs21 1486,none,.ref 926,.none,0⟩),⟨[]⟩⟩,⟨.type z10,none,(.seq ⟨[]⟩ 0),⟨[]⟩⟩,⟨.none,none,(.fields ⟨[]⟩),⟨[]⟩⟩,⟨.type z10,none,(.seq ⟨[.str (S 4 0x65676170) 1523,.str (S 4 0x796e616d) 1524]⟩ 0),⟨[]⟩⟩,⟨.type z10,none,(.seq ⟨[]⟩ 0),⟨[]⟩⟩,⟨.none,none,(.func ⟨zs72,zs72,dA p 56 1000,.stmts (dB p 56 1000),dS p 56 1000,0,[],.none,.none,.none,.none,none,.none,.none,0⟩),⟨[]⟩⟩,⟨.type z15,none,(.fields ⟨[.str zs72 1520,.str zs72 1521,.str zs0 1522,.int 628 0,.int 2 0,.int 0 0,.int 0 0,.int 3 0,.ref 928,.bool true,.int 181 0,.ref 929,.none,.ref 930,.ref 931,.ref 932,.int 1525 0,.int 628 0,.str zs0 1526]⟩),⟨[]⟩⟩,⟨.type z20,none,(.func ⟨zs72,zs72,dA p 56 1000,.stmts (dB p 56 1000),dS p 56 1000,3,[],.none,.none,.none,.str zs21 1486,none,.ref 933,.none,0⟩),⟨[]⟩⟩,⟨.type z10,none,(.seq ⟨[]⟩ 0),⟨[]⟩⟩,⟨.none,none,(.fields ⟨[]⟩),⟨[]⟩⟩,⟨.type z10,none,(.seq ⟨[.str (S 4 0x65676170) 1531,.str (S 5 0x6e776f6e6b) 1532,.str (S 5 0x746c756166) 1533]⟩ 0),⟨[]⟩⟩,⟨.type z10,none,(.seq ⟨[]⟩ 0),⟨[]⟩⟩,⟨.none,none,(.func ⟨zs73,zs73,dA p 57 1000,.stmts (dB p 57 1000),dS p 57 1000,0,[],.none,.none,.none,.none,none,.none,.none,0⟩),⟨[]⟩⟩,⟨.type z15,none,(.fields ⟨[.str zs73 1528,.str zs73 1529,.str zs0 1530,.int 630 0,.int 2 0,.int 0 0,.int 0 0,.int 3 0,.ref 935,.bool true,.int 181 0,.ref 936,.none,.ref 937,.ref 938,.ref 939,.int 1534 0,.int 630 0,.str zs0 1535]⟩),⟨[]⟩⟩,⟨.type z20,none,(.func ⟨zs73,zs73,dA p 57 1000,.stmts (dB p 57 1000),dS p 57 1000,3,[],.none,.none,.none,.str zs21 1486,none,.ref 940,.none,0⟩),⟨[]⟩⟩,⟨.type z10,none,(.seq ⟨[]⟩ 0),⟨[]⟩⟩,⟨.none,none,(.fields ⟨[]⟩),⟨[]⟩⟩,⟨.type z10,none,(.seq ⟨[.str (S 4 0x65676170) 1540,.str (S 5 0x6e776f6e6b) 1541,.str (S 7 0x6e726574746170) 1542,.str (S 3 0x646e65) 1543,.str (S 5 0x746c756166) 1544]⟩ 0),⟨[]⟩⟩,⟨.type z10,none,(.seq ⟨[]⟩ 0),⟨[]⟩⟩,⟨.none,none,(.func ⟨zs74,zs74,dA p 58 1000,.stmts (dB p 58 1000),dS p 58 1000,0,[],.none,.none,.none,.none,none,.none,.none,0⟩),⟨[]⟩⟩,⟨.type z15,none,(.fields ⟨[.str zs74 1537,.str zs74 1538,.str zs0 1539,.int 635 0,.int 2 0,.int 0 0,.int 0 0,.int 3 0,.ref 942,.bool true,.int 181 0,.ref 943,.none,.ref 944,.ref 945,.ref 946,.int 1545 0,.int 635 0,.str zs0 1546]⟩),⟨[]⟩⟩,⟨.type z20,none,(.func ⟨zs74,zs74,dA p 58 1000,.stmts (dB p 58 1000),dS p 58 1000,3,[],.none,.none,.none,.str zs21 1486,none,.ref 947,.none,0⟩),⟨[]⟩⟩,⟨.type z10,none,(.seq ⟨[]⟩ 0),⟨[]⟩⟩,⟨.none,none,(.fields ⟨[]⟩),⟨[]⟩⟩,⟨.type z10,none,(.seq ⟨[.str (S 5 0x6e65766967) 1551,.str (S 6 0x73726579616c) 1552,.str (S 4 0x65657274) 1553,.str (S 4 0x65726568) 1554,.str (S 5 0x726579616c) 1555]⟩ 0),⟨[]⟩⟩,⟨.type z10,none,(.seq ⟨[]⟩ 0),⟨[]⟩⟩,⟨.none,none,(.func ⟨zs75,zs75,dA p 59 1000,.stmts (dB p 59 1000),dS p 59 1000,0,[],.none,.none,.none,.none,none,.none,.none,0⟩),⟨[]⟩⟩,⟨.type z15,none,(.fields ⟨[.str zs75 1548,.str zs75 1549,.str zs0 1550,.int 641 0,.int 3 0,.int 0 0,.int 0 0,.int 3 0,.ref 949,.bool true,.int 181 0,.ref 950,.none,.ref 951,.ref 952,.ref 953,.int 1556 0,.int 641 0,.str zs0 1557]⟩),⟨[]⟩⟩,⟨.type z20,none,(.func ⟨zs75,zs75,dA p 59 1000,.stmts (dB p 59 1000),dS p 59 1000,3,[],.none,.none,.none,.str zs21 1486,none,.ref 954,.none,0⟩),⟨[]⟩⟩,⟨.type z10,none,(.seq ⟨[]⟩ 0),⟨[]⟩⟩,⟨.none,none,(.fields ⟨[]⟩),⟨[]⟩⟩,⟨.type z10,none,(.seq ⟨[.str (S 4 0x65676170) 1562,.str (S 5 0x6e776f6e6b) 1563,.str (S 8 0x6c696172745f7369) 1564,.str (S 3 0x657564) 1565,.str (S 5 0x646e756f66) 1566]⟩ 0),⟨[]⟩⟩,⟨.type z10,none,(.seq ⟨[]⟩ 0),⟨[]⟩⟩,⟨.none,none,(.func ⟨zs76,zs76,dA p 60 1000,.stmts (dB p 60 1000),dS p 60 1000,0,[],.none,.none,.none,.none,none,.none,.none,0⟩),⟨[]⟩⟩,⟨.type z15,none,(.fields ⟨[.str zs76 1559,.str zs76 1560,.str zs0 1561,.int 656 0,.int 4 0,.int 0 0,.int 0 0,.int 3 0,.ref 956,.bool true,.int 181 0,.ref 957,.none,.ref 958,.ref 959,.ref 960,.int 1567 0,.int 656 0,.str zs0 1568]⟩),⟨[]⟩⟩,⟨.type z20,none,(.func ⟨zs76,zs76,dA p 60 1000,.stmts (dB p 60 1000),dS p 60 1000,3,[],.none,.none,.none,.str zs21 1486,none,.ref 961,.none,0⟩),⟨[]⟩⟩,⟨.type z10,none,(.seq ⟨[]⟩ 0),⟨[]⟩⟩,⟨.none,none,(.fields ⟨[]⟩),⟨[]⟩⟩,⟨.none,none,(.func ⟨zs79,zs79,dA p 61 1000,.stmts (dB p 61 1000),dS p 61 1000,0,[],.none,.none,.none,.none,none,.none,.none,0⟩),⟨[]⟩⟩,⟨.type z15,none,(.fields ⟨[.str zs79 1570,.str zs79 1571,.str zs0 1572,.int 665 0,.int 1 0,.int 0 0,.int 0 0,.int 3 0,.ref 963,.bool true,.int 181 0,.ref 964,.none,.none,.none,.ref 965,.int 1573 0,.int 665 0,.str zs0 1574]⟩),⟨[]⟩⟩,⟨.type z20,none,(.func ⟨zs79,zs79,dA p 61 1000,.stmts (dB p 61 1000),dS p 61 1000,3,[],.none,.none,.none,.str zs21 1486,none,.ref 966,.none,0⟩),⟨[]⟩⟩]
noncomputable def tr14 (p : Program) (P : Params) : BT:=insAll (setAll (tr13 p P) [(3,o3v13 p P),(12,o12v11 p P)]) 884 (l14_0 p P)
noncomputable def tr15 (p : Program) (P : Params) : BT:=insAll (setAll (tr14 p P) []) 968 []
noncomputable def finL (p : Program) (P : Params) : List Obj:=[(boot_o_0 P),(boot_o_1 P),(o2v1 p P),(o3v13 p P),(boot_o_4 P),(boot_o_5 P),(boot_o_6 P),(boot_o_7 P),(boot_o_8 P),(boot_o_9 P),(boot_o_10 P)] ++ (l0_0 p P ++ ([(o12v11 p P)] ++ (l0_1 p P ++ (l2_0 p P ++ (l3_0 p P ++ (l4_0 p P ++ (l5_0 p P ++ (l6_0 p P ++ (l7_0 p P ++ (l8_0 p P ++ ([(o463v2 p P)] ++ (l8_1 p P ++ (l9_0 p P ++ ([(o548v1 p P)] ++ (l9_1 p P ++ (l10_0 p P ++ ([(o605v2 p P)] ++ (l10_1 p P ++ (l11_0 p P ++ (l12_0 p P ++ (l13_0 p P ++ l14_0 p P)))))))))))))))))))))
end
set_option maxHeartbeats 0
noncomputable section
noncomputable def sts0 (p : Program) : List Stmt:=(p.main.body.drop 0).take 9
theorem pc0 : ∀ (w : World) (os : OsState),segRunT treeTable pgm w 11 annM 1 134 (stO tr1 15 187 pgm w os) (piecesOf (sts0 pgm) (envM pgm) (cM pgm) ⟨0,0,0,0⟩ [topFrame q0]) = some (.next,stO tr2 22 214 pgm w os,cM pgm,⟨11,0,11,12⟩):=by unfold pgm;rw [PySem.W.Fast.te10110043849684766642,PySem.W.Fast.te14364793385576792824];intro w os;kernel_rfl
noncomputable def sts1 (p : Program) : List Stmt:=(p.main.body.drop 9).take 1
theorem pc1 : ∀ (w : World) (os : OsState),segRunT treeTable pgm w 11 annM 1 116 (stO tr2 22 214 pgm w os) (piecesOf (sts1 pgm) (envM pgm) (cM pgm) ⟨11,0,11,12⟩ [topFrame q0]) = some (.next,stO tr3 23 236 pgm w os,cM pgm,⟨12,0,12,13⟩) :=
  byRow2 "special-get-raises" (P:=fun w=>∀ os : OsState,segRunT treeTable pgm w 11 annM 1 116 (stO tr2 22 214 pgm w os) (piecesOf (sts1 pgm) (envM pgm) (cM pgm) ⟨11,0,11,12⟩ [topFrame q0]) = some (.next,stO tr3 23 236 pgm w os,cM pgm,⟨12,0,12,13⟩)) (by unfold pgm;rw [PySem.W.Fast.te10110043849684766642,PySem.W.Fast.te14364793385576792824];intro w os;kernel_rfl) (by unfold pgm;rw [PySem.W.Fast.te10110043849684766642,PySem.W.Fast.te14364793385576792824];intro w os;kernel_rfl)
noncomputable def sts2 (p : Program) : List Stmt:=(p.main.body.drop 10).take 4
theorem pc2 : ∀ (w : World) (os : OsState),segRunT treeTable pgm w 11 annM 1 767 (stO tr3 23 236 pgm w os) (piecesOf (sts2 pgm) (envM pgm) (cM pgm) ⟨12,0,12,13⟩ [topFrame q0]) = some (.next,stO tr4 98 342 pgm w os,cM pgm,⟨42,0,43,8⟩):=by unfold pgm;rw [PySem.W.Fast.te10110043849684766642,PySem.W.Fast.te14364793385576792824];intro w os;kernel_rfl
noncomputable def sts3 (p : Program) : List Stmt:=(p.main.body.drop 14).take 3
theorem pc3 : ∀ (w : World) (os : OsState),segRunT treeTable pgm w 11 annM 1 735 (stO tr4 98 342 pgm w os) (piecesOf (sts3 pgm) (envM pgm) (cM pgm) ⟨42,0,43,8⟩ [topFrame q0]) = some (.next,stO tr5 227 506 pgm w os,cM pgm,⟨142,0,142,3⟩):=by unfold pgm;rw [PySem.W.Fast.te10110043849684766642,PySem.W.Fast.te14364793385576792824];intro w os;kernel_rfl
noncomputable def sts4 (p : Program) : List Stmt:=(p.main.body.drop 17).take 1
theorem pc4 : ∀ (w : World) (os : OsState),segRunT treeTable pgm w 11 annM 1 295 (stO tr5 227 506 pgm w os) (piecesOf (sts4 pgm) (envM pgm) (cM pgm) ⟨142,0,142,3⟩ [topFrame q0]) = some (.next,stO tr6 263 577 pgm w os,cM pgm,⟨143,0,143,11⟩) :=
  byRow2 "special-get-raises" (P:=fun w=>∀ os : OsState,segRunT treeTable pgm w 11 annM 1 295 (stO tr5 227 506 pgm w os) (piecesOf (sts4 pgm) (envM pgm) (cM pgm) ⟨142,0,142,3⟩ [topFrame q0]) = some (.next,stO tr6 263 577 pgm w os,cM pgm,⟨143,0,143,11⟩)) (by unfold pgm;rw [PySem.W.Fast.te10110043849684766642,PySem.W.Fast.te14364793385576792824];intro w os;kernel_rfl) (by unfold pgm;rw [PySem.W.Fast.te10110043849684766642,PySem.W.Fast.te14364793385576792824];intro w os;kernel_rfl)
noncomputable def sts5 (p : Program) : List Stmt:=(p.main.body.drop 18).take 1
theorem pc5 : ∀ (w : World) (os : OsState),segRunT treeTable pgm w 11 annM 1 1623 (stO tr6 263 577 pgm w os) (piecesOf (sts5 pgm) (envM pgm) (cM pgm) ⟨143,0,143,11⟩ [topFrame q0]) = some (.next,stO tr7 433 832 pgm w os,cM pgm,⟨144,0,247,25⟩):=by unfold pgm;rw [PySem.W.Fast.te10110043849684766642,PySem.W.Fast.te14364793385576792824];intro w os;kernel_rfl
noncomputable def sts6 (p : Program) : List Stmt:=(p.main.body.drop 19).take 12
theorem pc6 : ∀ (w : World) (os : OsState),segRunT treeTable pgm w 11 annM 1 595 (stO tr7 433 832 pgm w os) (piecesOf (sts6 pgm) (envM pgm) (cM pgm) ⟨144,0,247,25⟩ [topFrame q0]) = some (.next,stO tr8 480 912 pgm w os,cM pgm,⟨270,0,271,18⟩):=by unfold pgm;rw [PySem.W.Fast.te10110043849684766642,PySem.W.Fast.te14364793385576792824];intro w os;kernel_rfl
noncomputable def sts7 (p : Program) : List Stmt:=(p.main.body.drop 31).take 3
theorem pc7 : ∀ (w : World) (os : OsState),segRunT treeTable pgm w 11 annM 1 821 (stO tr8 480 912 pgm w os) (piecesOf (sts7 pgm) (envM pgm) (cM pgm) ⟨270,0,271,18⟩ [topFrame q0]) = some (.next,stO tr9 551 1008 pgm w os,cM pgm,⟨282,0,296,19⟩):=by unfold pgm;rw [PySem.W.Fast.te10110043849684766642,PySem.W.Fast.te14364793385576792824];intro w os;kernel_rfl
noncomputable def sts8 (p : Program) : List Stmt:=(p.main.body.drop 34).take 3
theorem pc8 : ∀ (w : World) (os : OsState),segRunT treeTable pgm w 11 annM 1 780 (stO tr9 551 1008 pgm w os) (piecesOf (sts8 pgm) (envM pgm) (cM pgm) ⟨282,0,296,19⟩ [topFrame q0]) = some (.next,stO tr10 608 1083 pgm w os,cM pgm,⟨301,0,310,44⟩):=by unfold pgm;rw [PySem.W.Fast.te10110043849684766642,PySem.W.Fast.te14364793385576792824];intro w os;kernel_rfl
noncomputable def sts9 (p : Program) : List Stmt:=(p.main.body.drop 37).take 3
theorem pc9 : ∀ (w : World) (os : OsState),segRunT treeTable pgm w 11 annM 1 709 (stO tr10 608 1083 pgm w os) (piecesOf (sts9 pgm) (envM pgm) (cM pgm) ⟨301,0,310,44⟩ [topFrame q0]) = some (.next,stO tr11 644 1137 pgm w os,cM pgm,⟨315,0,316,16⟩):=by unfold pgm;rw [PySem.W.Fast.te10110043849684766642,PySem.W.Fast.te14364793385576792824];intro w os;kernel_rfl
noncomputable def sts10 (p : Program) : List Stmt:=(p.main.body.drop 40).take 6
theorem pc10 : ∀ (w : World) (os : OsState),segRunT treeTable pgm w 11 annM 1 744 (stO tr11 644 1137 pgm w os) (piecesOf (sts10 pgm) (envM pgm) (cM pgm) ⟨315,0,316,16⟩ [topFrame q0]) = some (.next,stO tr12 739 1260 pgm w os,cM pgm,⟨366,0,385,53⟩):=by unfold pgm;rw [PySem.W.Fast.te10110043849684766642,PySem.W.Fast.te14364793385576792824];intro w os;kernel_rfl
noncomputable def sts11 (p : Program) : List Stmt:=(p.main.body.drop 46).take 3
theorem pc11 : ∀ (w : World) (os : OsState),segRunT treeTable pgm w 11 annM 1 819 (stO tr12 739 1260 pgm w os) (piecesOf (sts11 pgm) (envM pgm) (cM pgm) ⟨366,0,385,53⟩ [topFrame q0]) = some (.next,stO tr13 884 1459 pgm w os,cM pgm,⟨390,0,570,40⟩):=by unfold pgm;rw [PySem.W.Fast.te10110043849684766642,PySem.W.Fast.te14364793385576792824];intro w os;kernel_rfl
noncomputable def sts12 (p : Program) : List Stmt:=(p.main.body.drop 49).take 13
theorem pc12 : ∀ (w : World) (os : OsState),segRunT treeTable pgm w 11 annM 1 389 (stO tr13 884 1459 pgm w os) (piecesOf (sts12 pgm) (envM pgm) (cM pgm) ⟨390,0,570,40⟩ [topFrame q0]) = some (.next,stO tr14 968 1576 pgm w os,cM pgm,⟨665,0,694,64⟩):=by unfold pgm;rw [PySem.W.Fast.te10110043849684766642,PySem.W.Fast.te14364793385576792824];intro w os;kernel_rfl
end
set_option maxHeartbeats 0
noncomputable def H0 (P : Params) : Heap:=boot_heap P
noncomputable def H1 (P : Params) : Heap:=⟨⟨finL PySem.Challenge.pw_sf0023_01 P⟩,(boot_heap P).life⟩
noncomputable def sh (h : Params → Heap) (k : Nat) (w : World) (os : OsState) : Shared:=⟨h w.params,⟨[]⟩,boot_drawn,k,os⟩
theorem fin_heap (P : Params) : absHeap (tr14 pgm P) 968 (boot_heap P).life = H1 P:=by
  unfold pgm H1;kernel_rfl
theorem pre_go (w : World) (os : OsState) : topGo treeTable pgm w 11 annM 12 (sh H0 boot_toks w os) (topStub pgm) = some ((stO tr0 15 187 pgm w os).abs,⟨denote treeTable (cM pgm),cM pgm,q0,[topFrame q0]⟩):=by
  unfold pgm;rw [PySem.W.Fast.te15667345088766844465,PySem.W.Fast.te11892475500146522536,PySem.W.Fast.te14364793385576792824];kernel_rfl
theorem block_run (w : World) (os : OsState) : segRun treeTable pgm w 11 annM 1 1 (stO tr0 15 187 pgm w os).abs (blockOf (behindTheImports pgm) (envM pgm) (cM pgm) q0 [topFrame q0]) = some (.next,(stO tr1 15 187 pgm w os).abs,cM pgm,q0):=by
  unfold pgm;rw [PySem.W.Fast.te14374325043358763698,PySem.W.Fast.te14364793385576792824];kernel_rfl
theorem fin_run (w : World) (os : OsState) : topRun treeTable pgm w 11 annM 2 (stO tr14 968 1576 pgm w os).abs ⟨doneF .next,cM pgm,⟨665,0,694,64⟩,[topFrame q0]⟩ = some (stO tr14 968 1576 pgm w os).abs:=by
  unfold pgm;rw [PySem.W.Fast.te14082659384304107361,PySem.W.Fast.te14364793385576792824];kernel_rfl
theorem body_parts : behindTheImports pgm = sts0 pgm ++ (sts1 pgm ++ (sts2 pgm ++ (sts3 pgm ++ (sts4 pgm ++ (sts5 pgm ++ (sts6 pgm ++ (sts7 pgm ++ (sts8 pgm ++ (sts9 pgm ++ (sts10 pgm ++ (sts11 pgm ++ (sts12 pgm ++ [])))))))))))):=by
  unfold pgm;kernel_rfl
set_option maxHeartbeats 0
noncomputable def qv : Program:=view pgm [61]
noncomputable def looseL : List Str:=[zs22,zs38,zs39,zs40,zs41,zs42,zs43,zs44,zs64,zs15,zs18,zs16,zs17,zs19,zs77,zs80,zs24,zs46,zs87,zs88,zs89,S 3 0x574f52,zs90,zs91,zs92,zs93,zs12,zs27,zs47,zs29,zs20,zs31,zs32,zs13,zs33,zs34,zs35,zs78,zs48,zs49,zs50,zs81,zs37,zs82,zs83,zs51,zs66,zs67,zs68,zs69,zs70,zs71,zs72,zs73,zs74,zs75,zs76]
noncomputable abbrev Xt : Shared → Bool:=fun s=>xlAt qv [] s && recOk [] s
noncomputable def s1 (w : World) (os : OsState) : Shared:=⟨H1 w.params,⟨[]⟩,boot_drawn,1576,os⟩
theorem look1 (w : World) : (fun os=>(staticsOk (importedModules pgm.main.body) (H0 w.params) (H1 w.params) && namesBound pgm (H1 w.params) && gensDone (s1 w os) && laidKept (H0 w.params) (H1 w.params))) = fun _=>true:=by
  unfold pgm H1;rw [PySem.W.Fast.te5923862056798008813];kernel_rfl
theorem look2 (w : World) : (fun os=>openSeen qv looseL (importedModules pgm.main.body) Xt true (s1 w os)) = fun _=>openGood qv looseL:=by
  unfold Xt qv s1 pgm H1;rw [PySem.W.Fast.te4187177175401517315,PySem.W.Fast.te5923862056798008813];kernel_rfl
set_option maxHeartbeats 0
noncomputable def k2 (P : Params) : Obj:=⟨.none,none,(.dict ⟨[en P (S 31 0x302e6e6f697470656378452e5f5f73657373616c636275735f5f2e65707974) 322 (.int 82 0),en P (S 31 0x6e2e6e6f697470656378452e5f5f73657373616c636275735f5f2e65707974) 323 (.int 1 0)]⟩ 2),⟨[]⟩⟩
noncomputable def k3 (P : Params) : Obj:=⟨.type "dict",none,(.dict ⟨[en P zs25 165 (.str zs21 1486),en P zs5 166 (.none),en P zs52 167 (.none),en P zs53 168 (.builtin "__main__.__loader__#opaque"),en P zs54 169 (.none),en P zs26 170 (.ref 6),en P zs55 171 (.ref 4),en P zs56 173 (.str zs0 172),en P zs57 174 (.none),en P zs22 193 (.ref 21),en P zs38 197 (.str zs58 196),en P zs39 200 (.str zs59 199),en P zs40 202 (.str zs60 201),en P zs41 206 (.str zs61 205),en P zs42 209 (.str zs62 208),en P zs43 211 (.str zs63 210),en P zs44 213 (.int 4000 212),en P zs64 235 (.ref 22),en P zs15 275 (.ref 46),en P zs18 287 (.ref 57),en P zs16 325 (.ref 82),en P zs17 341 (.ref 95),en P zs19 501 (.ref 222),en P zs77 505 (.int 127 504),en P zs80 576 (.ref 227),en P zs24 831 (.ref 428),en P zs46 839 (.ref 439),en P zs87 843 (.int 40 842),en P zs88 845 (.int 20 844),en P zs89 847 (.int 0 846),en P (S 3 0x574f52) 849 (.int 1 848),en P zs90 851 (.int 2 850),en P zs91 853 (.str (S 3 0xa0920) 852),en P zs92 855 (.str zs99 854),en P zs93 857 (.str (S 1 0xa) 856),en P zs12 893 (.ref 463),en P zs27 911 (.ref 477),en P zs47 929 (.ref 489),en P zs29 963 (.ref 515),en P zs20 1007 (.ref 548),en P zs31 1025 (.ref 560),en P zs32 1043 (.ref 572),en P zs13 1082 (.ref 605),en P zs33 1100 (.ref 617),en P zs34 1118 (.ref 629),en P zs35 1136 (.ref 641),en P zs78 1173 (.ref 667),en P zs48 1182 (.ref 676),en P zs49 1188 (.ref 682),en P zs50 1197 (.ref 689),en P zs81 1204 (.ref 696),en P zs37 1259 (.ref 734),en P zs82 1265 (.ref 745),en P zs83 1272 (.ref 752),en P zs51 1458 (.ref 879),en P zs66 1468 (.ref 891),en P zs67 1485 (.ref 899),en P zs68 1496 (.ref 906),en P zs69 1505 (.ref 913),en P zs70 1512 (.ref 920),en P zs71 1519 (.ref 927),en P zs72 1527 (.ref 934),en P zs73 1536 (.ref 941),en P zs74 1547 (.ref 948),en P zs75 1558 (.ref 955),en P zs76 1569 (.ref 962),en P zs79 1575 (.ref 967)]⟩ 67),⟨[]⟩⟩
noncomputable def k35 (P : Params) : Obj:=⟨.type "code",none,(.fields ⟨[.str zs2 248,.str zs120 249,.str zs0 250,.int 15 0,.int 4 0,.int 0 0,.int 0 0,.int 3 0,.ref 30,.bool true,.int 181 0,.ref 31,.none,.ref 32,.ref 33,.ref 34,.int 255 0,.int 15 0,.str zs0 256]⟩),⟨[]⟩⟩
noncomputable def k36 (P : Params) : Obj:=(fun (a : Arguments) (b : List Stmt) (s : Scope) (_ : dA pgm 10 0 = a) (_ : dB pgm 10 0 = b) (_ : dS pgm 10 0 = s)=>(⟨.type "function",none,(.func ⟨zs2,zs120,a,.stmts b,s,3,[],.none,.none,.none,.str zs9 194,none,.ref 35,.none,0⟩),⟨[]⟩⟩ : Obj)) _ _ _ (by conv=>lhs;whnf) (by conv=>lhs;whnf) (by conv=>lhs;whnf)
noncomputable def k45 (P : Params) : Obj:=⟨.type "dict",none,(.dict ⟨[en P zs4 243 (.str zs9 194),en P zs6 247 (.int 13 246),en P zs2 257 (.ref 36),en P zs8 264 (.ref 43),en P zs7 268 (.ref 44),en P zs30 270 (.ref 47),en P zs23 272 (.ref 48),en P zs5 273 (.none)]⟩ 4),⟨[]⟩⟩
noncomputable def k46 (P : Params) : Obj:=⟨.type "type",none,(.cls ⟨zs15,[.type "object"],[.ref 46,.type "object"],45,zs15,true,[],[],false,none,false⟩),⟨[none,none,some (.str zs15 236),some (.str zs15 244),some (.builtin "object.__new__"),some (.bool true)]⟩⟩
noncomputable def k56 (P : Params) : Obj:=⟨.type "code",none,(.fields ⟨[.str zs18 276,.str zs18 277,.str zs0 278,.int 22 0,.int 2 0,.int 0 0,.int 0 0,.int 3 0,.ref 51,.bool true,.int 181 0,.ref 52,.none,.ref 53,.ref 54,.ref 55,.int 285 0,.int 22 0,.str zs0 286]⟩),⟨[]⟩⟩
noncomputable def k57 (P : Params) : Obj:=(fun (a : Arguments) (b : List Stmt) (s : Scope) (_ : dA pgm 11 1000 = a) (_ : dB pgm 11 1000 = b) (_ : dS pgm 11 1000 = s)=>(⟨.type "function",none,(.func ⟨zs18,zs18,a,.stmts b,s,3,[],.none,.none,.none,.str zs9 194,none,.ref 56,.none,0⟩),⟨[]⟩⟩ : Obj)) _ _ _ (by conv=>lhs;whnf) (by conv=>lhs;whnf) (by conv=>lhs;whnf)
noncomputable def k65 (P : Params) : Obj:=⟨.type "tuple",none,(.seq ⟨[.none]⟩ 0),⟨[]⟩⟩
noncomputable def k71 (P : Params) : Obj:=⟨.type "code",none,(.fields ⟨[.str zs2 300,.str zs121 301,.str zs0 302,.int 33 0,.int 3 0,.int 0 0,.int 0 0,.int 3 0,.ref 66,.bool true,.int 181 0,.ref 67,.none,.ref 68,.ref 69,.ref 70,.int 306 0,.int 33 0,.str zs0 307]⟩),⟨[]⟩⟩
noncomputable def k72 (P : Params) : Obj:=(fun (a : Arguments) (b : List Stmt) (s : Scope) (_ : dA pgm 12 0 = a) (_ : dB pgm 12 0 = b) (_ : dS pgm 12 0 = s)=>(⟨.type "function",none,(.func ⟨zs2,zs121,a,.stmts b,s,3,[],.ref 65,.none,.none,.str zs9 194,none,.ref 71,.none,0⟩),⟨[]⟩⟩ : Obj)) _ _ _ (by conv=>lhs;whnf) (by conv=>lhs;whnf) (by conv=>lhs;whnf)
noncomputable def k81 (P : Params) : Obj:=⟨.type "dict",none,(.dict ⟨[en P zs4 295 (.str zs9 194),en P zs6 299 (.int 31 298),en P zs2 308 (.ref 72),en P zs8 315 (.ref 79),en P zs7 318 (.ref 80),en P zs23 320 (.ref 83),en P zs5 321 (.none)]⟩ 3),⟨[]⟩⟩
noncomputable def k82 (P : Params) : Obj:=⟨.type "type",none,(.cls ⟨zs16,[.type "Exception"],[.ref 82,.type "Exception",.type "BaseException",.type "object"],81,zs16,true,[],[.ref 95],false,none,false⟩),⟨[some (.ref 58),none,some (.str zs16 288),some (.str zs16 296),some (.builtin "Exception.__new__"),some (.bool true)]⟩⟩
noncomputable def k94 (P : Params) : Obj:=⟨.type "dict",none,(.dict ⟨[en P zs4 333 (.str zs9 194),en P zs6 337 (.int 42 336),en P zs7 338 (.ref 93),en P zs5 339 (.none)]⟩ 2),⟨[]⟩⟩
noncomputable def k95 (P : Params) : Obj:=⟨.type "type",none,(.cls ⟨zs17,[.ref 82],[.ref 95,.ref 82,.type "Exception",.type "BaseException",.type "object"],94,zs17,true,[],[],false,none,false⟩),⟨[some (.ref 86),none,some (.str zs17 326),some (.str zs17 334),some (.builtin "Exception.__new__"),some (.bool true)]⟩⟩
noncomputable def k105 (P : Params) : Obj:=⟨.type "tuple",none,(.seq ⟨[.int 0 354]⟩ 0),⟨[]⟩⟩
noncomputable def k111 (P : Params) : Obj:=⟨.type "code",none,(.fields ⟨[.str zs2 355,.str zs122 356,.str zs0 357,.int 46 0,.int 3 0,.int 0 0,.int 0 0,.int 3 0,.ref 106,.bool true,.int 181 0,.ref 107,.none,.ref 108,.ref 109,.ref 110,.int 361 0,.int 46 0,.str zs0 362]⟩),⟨[]⟩⟩
noncomputable def k112 (P : Params) : Obj:=(fun (a : Arguments) (b : List Stmt) (s : Scope) (_ : dA pgm 14 0 = a) (_ : dB pgm 14 0 = b) (_ : dS pgm 14 0 = s)=>(⟨.type "function",none,(.func ⟨zs2,zs122,a,.stmts b,s,3,[],.ref 105,.none,.none,.str zs9 194,none,.ref 111,.none,0⟩),⟨[]⟩⟩ : Obj)) _ _ _ (by conv=>lhs;whnf) (by conv=>lhs;whnf) (by conv=>lhs;whnf)
noncomputable def k118 (P : Params) : Obj:=⟨.type "code",none,(.fields ⟨[.str zs95 364,.str zs123 365,.str zs0 366,.int 50 0,.int 1 0,.int 0 0,.int 0 0,.int 3 0,.ref 113,.bool true,.int 181 0,.ref 114,.none,.ref 115,.ref 116,.ref 117,.int 368 0,.int 50 0,.str zs0 369]⟩),⟨[]⟩⟩
noncomputable def k119 (P : Params) : Obj:=(fun (a : Arguments) (b : List Stmt) (s : Scope) (_ : dA pgm 14 1 = a) (_ : dB pgm 14 1 = b) (_ : dS pgm 14 1 = s)=>(⟨.type "function",none,(.func ⟨zs95,zs123,a,.stmts b,s,3,[],.none,.none,.none,.str zs9 194,none,.ref 118,.none,0⟩),⟨[]⟩⟩ : Obj)) _ _ _ (by conv=>lhs;whnf) (by conv=>lhs;whnf) (by conv=>lhs;whnf)
noncomputable def k120 (P : Params) : Obj:=⟨.type "tuple",none,(.seq ⟨[.int 0 371]⟩ 0),⟨[]⟩⟩
noncomputable def k126 (P : Params) : Obj:=⟨.type "code",none,(.fields ⟨[.str (S 4 0x6b656570) 372,.str zs124 373,.str zs0 374,.int 53 0,.int 2 0,.int 0 0,.int 0 0,.int 3 0,.ref 121,.bool true,.int 181 0,.ref 122,.none,.ref 123,.ref 124,.ref 125,.int 378 0,.int 53 0,.str zs0 379]⟩),⟨[]⟩⟩
noncomputable def k127 (P : Params) : Obj:=(fun (a : Arguments) (b : List Stmt) (s : Scope) (_ : dA pgm 14 2 = a) (_ : dB pgm 14 2 = b) (_ : dS pgm 14 2 = s)=>(⟨.type "function",none,(.func ⟨S 4 0x6b656570,zs124,a,.stmts b,s,3,[],.ref 120,.none,.none,.str zs9 194,none,.ref 126,.none,0⟩),⟨[]⟩⟩ : Obj)) _ _ _ (by conv=>lhs;whnf) (by conv=>lhs;whnf) (by conv=>lhs;whnf)
noncomputable def k133 (P : Params) : Obj:=⟨.type "code",none,(.fields ⟨[.str zs96 381,.str zs125 382,.str zs0 383,.int 59 0,.int 2 0,.int 0 0,.int 0 0,.int 3 0,.ref 128,.bool true,.int 181 0,.ref 129,.none,.ref 130,.ref 131,.ref 132,.int 386 0,.int 59 0,.str zs0 387]⟩),⟨[]⟩⟩
noncomputable def k134 (P : Params) : Obj:=(fun (a : Arguments) (b : List Stmt) (s : Scope) (_ : dA pgm 14 3 = a) (_ : dB pgm 14 3 = b) (_ : dS pgm 14 3 = s)=>(⟨.type "function",none,(.func ⟨zs96,zs125,a,.stmts b,s,3,[],.none,.none,.none,.str zs9 194,none,.ref 133,.none,0⟩),⟨[]⟩⟩ : Obj)) _ _ _ (by conv=>lhs;whnf) (by conv=>lhs;whnf) (by conv=>lhs;whnf)
noncomputable def k140 (P : Params) : Obj:=⟨.type "code",none,(.fields ⟨[.str (S 4 0x656b6174) 389,.str zs126 390,.str zs0 391,.int 62 0,.int 1 0,.int 0 0,.int 0 0,.int 3 0,.ref 135,.bool true,.int 181 0,.ref 136,.none,.ref 137,.ref 138,.ref 139,.int 394 0,.int 62 0,.str zs0 395]⟩),⟨[]⟩⟩
noncomputable def k141 (P : Params) : Obj:=(fun (a : Arguments) (b : List Stmt) (s : Scope) (_ : dA pgm 14 4 = a) (_ : dB pgm 14 4 = b) (_ : dS pgm 14 4 = s)=>(⟨.type "function",none,(.func ⟨S 4 0x656b6174,zs126,a,.stmts b,s,3,[],.none,.none,.none,.str zs9 194,none,.ref 140,.none,0⟩),⟨[]⟩⟩ : Obj)) _ _ _ (by conv=>lhs;whnf) (by conv=>lhs;whnf) (by conv=>lhs;whnf)
noncomputable def k147 (P : Params) : Obj:=⟨.type "code",none,(.fields ⟨[.str (S 4 0x70696b73) 397,.str zs127 398,.str zs0 399,.int 69 0,.int 2 0,.int 0 0,.int 0 0,.int 3 0,.ref 142,.bool true,.int 181 0,.ref 143,.none,.ref 144,.ref 145,.ref 146,.int 402 0,.int 69 0,.str zs0 403]⟩),⟨[]⟩⟩
noncomputable def k148 (P : Params) : Obj:=(fun (a : Arguments) (b : List Stmt) (s : Scope) (_ : dA pgm 14 5 = a) (_ : dB pgm 14 5 = b) (_ : dS pgm 14 5 = s)=>(⟨.type "function",none,(.func ⟨S 4 0x70696b73,zs127,a,.stmts b,s,3,[],.none,.none,.none,.str zs9 194,none,.ref 147,.none,0⟩),⟨[]⟩⟩ : Obj)) _ _ _ (by conv=>lhs;whnf) (by conv=>lhs;whnf) (by conv=>lhs;whnf)
noncomputable def k154 (P : Params) : Obj:=⟨.type "code",none,(.fields ⟨[.str zs97 405,.str zs128 406,.str zs0 407,.int 75 0,.int 2 0,.int 0 0,.int 0 0,.int 3 0,.ref 149,.bool true,.int 181 0,.ref 150,.none,.ref 151,.ref 152,.ref 153,.int 411 0,.int 75 0,.str zs0 412]⟩),⟨[]⟩⟩
noncomputable def k155 (P : Params) : Obj:=(fun (a : Arguments) (b : List Stmt) (s : Scope) (_ : dA pgm 14 6 = a) (_ : dB pgm 14 6 = b) (_ : dS pgm 14 6 = s)=>(⟨.type "function",none,(.func ⟨zs97,zs128,a,.stmts b,s,3,[],.none,.none,.none,.str zs9 194,none,.ref 154,.none,0⟩),⟨[]⟩⟩ : Obj)) _ _ _ (by conv=>lhs;whnf) (by conv=>lhs;whnf) (by conv=>lhs;whnf)
noncomputable def k176 (P : Params) : Obj:=⟨.type "code",none,(.fields ⟨[.str zs11 430,.str zs129 431,.str zs0 432,.int 87 0,.int 1 0,.int 0 0,.int 0 0,.int 3 0,.ref 171,.bool true,.int 181 0,.ref 172,.none,.ref 173,.ref 174,.ref 175,.int 435 0,.int 87 0,.str zs0 436]⟩),⟨[]⟩⟩
noncomputable def k177 (P : Params) : Obj:=(fun (a : Arguments) (b : List Stmt) (s : Scope) (_ : dA pgm 14 9 = a) (_ : dB pgm 14 9 = b) (_ : dS pgm 14 9 = s)=>(⟨.type "function",none,(.func ⟨zs11,zs129,a,.stmts b,s,3,[],.none,.none,.none,.str zs9 194,none,.ref 176,.none,0⟩),⟨[]⟩⟩ : Obj)) _ _ _ (by conv=>lhs;whnf) (by conv=>lhs;whnf) (by conv=>lhs;whnf)
noncomputable def k218 (P : Params) : Obj:=⟨.type "code",none,(.fields ⟨[.str zs36 482,.str zs130 483,.str zs0 484,.int 129 0,.int 2 0,.int 0 0,.int 0 0,.int 3 0,.ref 213,.bool true,.int 181 0,.ref 214,.none,.ref 215,.ref 216,.ref 217,.int 489 0,.int 129 0,.str zs0 490]⟩),⟨[]⟩⟩
noncomputable def k219 (P : Params) : Obj:=(fun (a : Arguments) (b : List Stmt) (s : Scope) (_ : dA pgm 14 15 = a) (_ : dB pgm 14 15 = b) (_ : dS pgm 14 15 = s)=>(⟨.type "function",none,(.func ⟨zs36,zs130,a,.stmts b,s,3,[],.none,.none,.none,.str zs9 194,none,.ref 218,.none,0⟩),⟨[]⟩⟩ : Obj)) _ _ _ (by conv=>lhs;whnf) (by conv=>lhs;whnf) (by conv=>lhs;whnf)
noncomputable def k221 (P : Params) : Obj:=⟨.type "dict",none,(.dict ⟨[en P zs4 349 (.str zs9 194),en P zs6 353 (.int 44 352),en P zs2 363 (.ref 112),en P zs95 370 (.ref 119),en P (S 4 0x6b656570) 380 (.ref 127),en P zs96 388 (.ref 134),en P (S 4 0x656b6174) 396 (.ref 141),en P (S 4 0x70696b73) 404 (.ref 148),en P zs97 413 (.ref 155),en P zs109 420 (.ref 162),en P zs110 429 (.ref 170),en P zs11 437 (.ref 177),en P zs98 446 (.ref 184),en P zs111 453 (.ref 191),en P zs112 461 (.ref 198),en P (S 5 0x6465646f63) 473 (.ref 205),en P (S 6 0x657061637365) 481 (.ref 212),en P zs36 491 (.ref 219),en P zs7 494 (.ref 220),en P zs30 496 (.ref 223),en P zs23 498 (.ref 224),en P zs5 499 (.none)]⟩ 4),⟨[]⟩⟩
noncomputable def k222 (P : Params) : Obj:=⟨.type "type",none,(.cls ⟨zs19,[.type "object"],[.ref 222,.type "object"],221,zs19,true,[],[],false,none,false⟩),⟨[none,none,some (.str zs19 342),some (.str zs19 350),some (.builtin "object.__new__"),some (.bool true)]⟩⟩
noncomputable def k275 (P : Params) : Obj:=⟨.type "code",none,(.fields ⟨[.str zs2 589,.str zs131 590,.str zs0 591,.int 146 0,.int 2 0,.int 0 0,.int 0 0,.int 3 0,.ref 270,.bool true,.int 181 0,.ref 271,.none,.ref 272,.ref 273,.ref 274,.int 594 0,.int 146 0,.str zs0 595]⟩),⟨[]⟩⟩
noncomputable def k276 (P : Params) : Obj:=(fun (a : Arguments) (b : List Stmt) (s : Scope) (_ : dA pgm 18 0 = a) (_ : dB pgm 18 0 = b) (_ : dS pgm 18 0 = s)=>(⟨.type "function",none,(.func ⟨zs2,zs131,a,.stmts b,s,3,[],.none,.none,.none,.str zs10 502,none,.ref 275,.none,0⟩),⟨[]⟩⟩ : Obj)) _ _ _ (by conv=>lhs;whnf) (by conv=>lhs;whnf) (by conv=>lhs;whnf)
noncomputable def k310 (P : Params) : Obj:=⟨.type "code",none,(.fields ⟨[.str (S 2 0x666f) 651,.str zs115 652,.str zs0 653,.int 161 0,.int 1 0,.int 0 0,.int 0 0,.int 3 0,.ref 307,.bool true,.int 181 0,.ref 308,.none,.none,.none,.ref 309,.int 654 0,.int 161 0,.str zs0 655]⟩),⟨[]⟩⟩
noncomputable def k311 (P : Params) : Obj:=(fun (a : Arguments) (b : List Stmt) (s : Scope) (_ : dA pgm 18 4 = a) (_ : dB pgm 18 4 = b) (_ : dS pgm 18 4 = s)=>(⟨.type "function",none,(.func ⟨S 2 0x666f,zs115,a,.stmts b,s,3,[],.none,.none,.none,.str zs10 502,(some 314),.ref 310,.none,0⟩),⟨[]⟩⟩ : Obj)) _ _ _ (by conv=>lhs;whnf) (by conv=>lhs;whnf) (by conv=>lhs;whnf)
noncomputable def k313 (P : Params) : Obj:=⟨.type "staticmethod",(some 312),(.fields ⟨[.ref 311,.bool false]⟩),⟨[]⟩⟩
noncomputable def k320 (P : Params) : Obj:=⟨.type "code",none,(.fields ⟨[.str zs45 669,.str zs116 670,.str zs0 671,.int 165 0,.int 2 0,.int 0 0,.int 0 0,.int 3 0,.ref 315,.bool true,.int 181 0,.ref 316,.none,.ref 317,.ref 318,.ref 319,.int 674 0,.int 165 0,.str zs0 675]⟩),⟨[]⟩⟩
noncomputable def k321 (P : Params) : Obj:=(fun (a : Arguments) (b : List Stmt) (s : Scope) (_ : dA pgm 18 5 = a) (_ : dB pgm 18 5 = b) (_ : dS pgm 18 5 = s)=>(⟨.type "function",none,(.func ⟨zs45,zs116,a,.stmts b,s,3,[],.none,.none,.none,.str zs10 502,(some 324),.ref 320,.none,0⟩),⟨[]⟩⟩ : Obj)) _ _ _ (by conv=>lhs;whnf) (by conv=>lhs;whnf) (by conv=>lhs;whnf)
noncomputable def k323 (P : Params) : Obj:=⟨.type "staticmethod",(some 322),(.fields ⟨[.ref 321,.bool false]⟩),⟨[]⟩⟩
noncomputable def k330 (P : Params) : Obj:=⟨.type "code",none,(.fields ⟨[.str zs85 689,.str zs117 690,.str zs0 691,.int 169 0,.int 1 0,.int 0 0,.int 0 0,.int 3 0,.ref 325,.bool true,.int 181 0,.ref 326,.none,.ref 327,.ref 328,.ref 329,.int 699 0,.int 169 0,.str zs0 700]⟩),⟨[]⟩⟩
noncomputable def k331 (P : Params) : Obj:=(fun (a : Arguments) (b : List Stmt) (s : Scope) (_ : dA pgm 18 6 = a) (_ : dB pgm 18 6 = b) (_ : dS pgm 18 6 = s)=>(⟨.type "function",none,(.func ⟨zs85,zs117,a,.stmts b,s,3,[],.none,.none,.none,.str zs10 502,(some 334),.ref 330,.none,0⟩),⟨[]⟩⟩ : Obj)) _ _ _ (by conv=>lhs;whnf) (by conv=>lhs;whnf) (by conv=>lhs;whnf)
noncomputable def k333 (P : Params) : Obj:=⟨.type "staticmethod",(some 332),(.fields ⟨[.ref 331,.bool false]⟩),⟨[]⟩⟩
noncomputable def k424 (P : Params) : Obj:=⟨.type "code",none,(.fields ⟨[.str (S 3 0x79656b) 816,.str zs132 817,.str zs0 818,.int 246 0,.int 1 0,.int 0 0,.int 0 0,.int 3 0,.ref 419,.bool true,.int 181 0,.ref 420,.none,.ref 421,.ref 422,.ref 423,.int 820 0,.int 246 0,.str zs0 821]⟩),⟨[]⟩⟩
noncomputable def k425 (P : Params) : Obj:=(fun (a : Arguments) (b : List Stmt) (s : Scope) (_ : dA pgm 18 19 = a) (_ : dB pgm 18 19 = b) (_ : dS pgm 18 19 = s)=>(⟨.type "function",none,(.func ⟨S 3 0x79656b,zs132,a,.stmts b,s,3,[],.none,.none,.none,.str zs10 502,none,.ref 424,.none,0⟩),⟨[]⟩⟩ : Obj)) _ _ _ (by conv=>lhs;whnf) (by conv=>lhs;whnf) (by conv=>lhs;whnf)
noncomputable def k427 (P : Params) : Obj:=⟨.type "dict",none,(.dict ⟨[en P zs4 584 (.str zs10 502),en P zs6 588 (.int 144 587),en P zs2 596 (.ref 276),en P (S 4 0x656e6f6e) 614 (.ref 285),en P (S 5 0x7972657665) 632 (.ref 295),en P (S 3 0x746f64) 650 (.ref 305),en P (S 2 0x666f) 668 (.ref 313),en P zs45 688 (.ref 323),en P zs85 713 (.ref 333),en P (S 3 0x736168) 726 (.ref 341),en P (S 4 0x657a6973) 733 (.ref 348),en P (S 5 0x7365646f63) 743 (.ref 355),en P (S 5 0x747361656c) 750 (.ref 362),en P zs113 757 (.ref 369),en P (S 5 0x6e6f696e75) 765 (.ref 376),en P (S 4 0x7465656d) 773 (.ref 383),en P zs114 784 (.ref 390),en P (S 5 0x73756e696d) 792 (.ref 397),en P (S 4 0x656d6173) 800 (.ref 404),en P (S 5 0x737465656d) 808 (.ref 411),en P (S 6 0x6465646c6f66) 815 (.ref 418),en P (S 3 0x79656b) 822 (.ref 425),en P zs7 824 (.ref 426),en P zs30 826 (.ref 429),en P zs23 828 (.ref 430),en P zs5 829 (.none)]⟩ 4),⟨[]⟩⟩
noncomputable def k428 (P : Params) : Obj:=⟨.type "type",none,(.cls ⟨zs24,[.type "object"],[.ref 428,.type "object"],427,zs24,true,[],[],false,none,false⟩),⟨[none,none,some (.str zs24 577),some (.str zs24 585),some (.builtin "object.__new__"),some (.bool true)]⟩⟩
noncomputable def k459 (P : Params) : Obj:=⟨.type "code",none,(.fields ⟨[.str zs8 879,.str zs133 880,.str zs0 881,.int 268 0,.int 1 0,.int 0 0,.int 0 0,.int 3 0,.ref 454,.bool true,.int 181 0,.ref 455,.none,.ref 456,.ref 457,.ref 458,.int 883 0,.int 268 0,.str zs0 884]⟩),⟨[]⟩⟩
noncomputable def k460 (P : Params) : Obj:=(fun (a : Arguments) (b : List Stmt) (s : Scope) (_ : dA pgm 29 2 = a) (_ : dB pgm 29 2 = b) (_ : dS pgm 29 2 = s)=>(⟨.type "function",none,(.func ⟨zs8,zs133,a,.stmts b,s,3,[],.none,.none,.none,.str zs1 840,none,.ref 459,.none,0⟩),⟨[]⟩⟩ : Obj)) _ _ _ (by conv=>lhs;whnf) (by conv=>lhs;whnf) (by conv=>lhs;whnf)
noncomputable def k462 (P : Params) : Obj:=⟨.type "dict",none,(.dict ⟨[en P zs4 865 (.str zs1 840),en P zs6 869 (.int 262 868),en P zs11 871 (.str zs94 870),en P zs28 878 (.ref 453),en P zs8 885 (.ref 460),en P zs7 886 (.ref 461),en P zs30 888 (.ref 464),en P zs23 890 (.ref 465),en P zs5 891 (.none)]⟩ 4),⟨[]⟩⟩
noncomputable def k463 (P : Params) : Obj:=⟨.type "type",none,(.cls ⟨zs12,[.type "object"],[.ref 463,.type "object"],462,zs12,true,[],[.ref 477,.ref 489,.ref 515,.ref 548,.ref 605],false,none,false⟩),⟨[none,none,some (.str zs12 858),some (.str zs12 866),some (.builtin "object.__new__"),some (.bool true)]⟩⟩
noncomputable def k476 (P : Params) : Obj:=⟨.type "dict",none,(.dict ⟨[en P zs4 901 (.str zs1 840),en P zs6 905 (.int 270 904),en P zs11 907 (.str (S 5 0x7974706d65) 906),en P zs7 908 (.ref 475),en P zs5 909 (.none)]⟩ 2),⟨[]⟩⟩
noncomputable def k477 (P : Params) : Obj:=⟨.type "type",none,(.cls ⟨zs27,[.ref 463],[.ref 477,.ref 463,.type "object"],476,zs27,true,[],[],false,none,false⟩),⟨[some (.ref 468),none,some (.str zs27 894),some (.str zs27 902),some (.builtin "object.__new__"),some (.bool true)]⟩⟩
noncomputable def k504 (P : Params) : Obj:=⟨.type "code",none,(.fields ⟨[.str zs2 944,.str zs134 945,.str zs0 946,.int 277 0,.int 2 0,.int 0 0,.int 0 0,.int 3 0,.ref 499,.bool true,.int 181 0,.ref 500,.none,.ref 501,.ref 502,.ref 503,.int 949 0,.int 277 0,.str zs0 950]⟩),⟨[]⟩⟩
noncomputable def k505 (P : Params) : Obj:=(fun (a : Arguments) (b : List Stmt) (s : Scope) (_ : dA pgm 32 1 = a) (_ : dB pgm 32 1 = b) (_ : dS pgm 32 1 = s)=>(⟨.type "function",none,(.func ⟨zs2,zs134,a,.stmts b,s,3,[],.none,.none,.none,.str zs1 840,none,.ref 504,.none,0⟩),⟨[]⟩⟩ : Obj)) _ _ _ (by conv=>lhs;whnf) (by conv=>lhs;whnf) (by conv=>lhs;whnf)
noncomputable def k511 (P : Params) : Obj:=⟨.type "code",none,(.fields ⟨[.str zs8 952,.str zs135 953,.str zs0 954,.int 280 0,.int 1 0,.int 0 0,.int 0 0,.int 3 0,.ref 506,.bool true,.int 181 0,.ref 507,.none,.ref 508,.ref 509,.ref 510,.int 956 0,.int 280 0,.str zs0 957]⟩),⟨[]⟩⟩
noncomputable def k512 (P : Params) : Obj:=(fun (a : Arguments) (b : List Stmt) (s : Scope) (_ : dA pgm 32 2 = a) (_ : dB pgm 32 2 = b) (_ : dS pgm 32 2 = s)=>(⟨.type "function",none,(.func ⟨zs8,zs135,a,.stmts b,s,3,[],.none,.none,.none,.str zs1 840,none,.ref 511,.none,0⟩),⟨[]⟩⟩ : Obj)) _ _ _ (by conv=>lhs;whnf) (by conv=>lhs;whnf) (by conv=>lhs;whnf)
noncomputable def k514 (P : Params) : Obj:=⟨.type "dict",none,(.dict ⟨[en P zs4 937 (.str zs1 840),en P zs6 941 (.int 274 940),en P zs11 943 (.str (S 5 0x7372616863) 942),en P zs2 951 (.ref 505),en P zs8 958 (.ref 512),en P zs7 960 (.ref 513),en P zs5 961 (.none)]⟩ 2),⟨[]⟩⟩
noncomputable def k515 (P : Params) : Obj:=⟨.type "type",none,(.cls ⟨zs29,[.ref 463],[.ref 515,.ref 463,.type "object"],514,zs29,true,[],[],false,none,false⟩),⟨[some (.ref 492),none,some (.str zs29 930),some (.str zs29 938),some (.builtin "object.__new__"),some (.bool true)]⟩⟩
noncomputable def k530 (P : Params) : Obj:=⟨.type "code",none,(.fields ⟨[.str zs2 976,.str zs136 977,.str zs0 978,.int 284 0,.int 3 0,.int 0 0,.int 0 0,.int 3 0,.ref 525,.bool true,.int 181 0,.ref 526,.none,.ref 527,.ref 528,.ref 529,.int 982 0,.int 284 0,.str zs0 983]⟩),⟨[]⟩⟩
noncomputable def k531 (P : Params) : Obj:=(fun (a : Arguments) (b : List Stmt) (s : Scope) (_ : dA pgm 33 0 = a) (_ : dB pgm 33 0 = b) (_ : dS pgm 33 0 = s)=>(⟨.type "function",none,(.func ⟨zs2,zs136,a,.stmts b,s,3,[],.none,.none,.none,.str zs1 840,none,.ref 530,.none,0⟩),⟨[]⟩⟩ : Obj)) _ _ _ (by conv=>lhs;whnf) (by conv=>lhs;whnf) (by conv=>lhs;whnf)
noncomputable def k544 (P : Params) : Obj:=⟨.type "code",none,(.fields ⟨[.str zs8 992,.str zs137 993,.str zs0 994,.int 291 0,.int 1 0,.int 0 0,.int 0 0,.int 3 0,.ref 539,.bool true,.int 181 0,.ref 540,.none,.ref 541,.ref 542,.ref 543,.int 999 0,.int 291 0,.str zs0 1000]⟩),⟨[]⟩⟩
noncomputable def k545 (P : Params) : Obj:=(fun (a : Arguments) (b : List Stmt) (s : Scope) (_ : dA pgm 33 2 = a) (_ : dB pgm 33 2 = b) (_ : dS pgm 33 2 = s)=>(⟨.type "function",none,(.func ⟨zs8,zs137,a,.stmts b,s,3,[],.none,.none,.none,.str zs1 840,none,.ref 544,.none,0⟩),⟨[]⟩⟩ : Obj)) _ _ _ (by conv=>lhs;whnf) (by conv=>lhs;whnf) (by conv=>lhs;whnf)
noncomputable def k547 (P : Params) : Obj:=⟨.type "dict",none,(.dict ⟨[en P zs4 971 (.str zs1 840),en P zs6 975 (.int 282 974),en P zs2 984 (.ref 531),en P zs28 991 (.ref 538),en P zs8 1001 (.ref 545),en P zs7 1004 (.ref 546),en P zs5 1005 (.none)]⟩ 2),⟨[]⟩⟩
noncomputable def k548 (P : Params) : Obj:=⟨.type "type",none,(.cls ⟨zs20,[.ref 463],[.ref 548,.ref 463,.type "object"],547,zs20,true,[],[.ref 560,.ref 572],false,none,false⟩),⟨[some (.ref 518),none,some (.str zs20 964),some (.str zs20 972),some (.builtin "object.__new__"),some (.bool true)]⟩⟩
noncomputable def k559 (P : Params) : Obj:=⟨.type "dict",none,(.dict ⟨[en P zs4 1015 (.str zs1 840),en P zs6 1019 (.int 297 1018),en P zs11 1021 (.str (S 3 0x746163) 1020),en P zs7 1022 (.ref 558),en P zs5 1023 (.none)]⟩ 2),⟨[]⟩⟩
noncomputable def k560 (P : Params) : Obj:=⟨.type "type",none,(.cls ⟨zs31,[.ref 548],[.ref 560,.ref 548,.ref 463,.type "object"],559,zs31,true,[],[],false,none,false⟩),⟨[some (.ref 551),none,some (.str zs31 1008),some (.str zs31 1016),some (.builtin "object.__new__"),some (.bool true)]⟩⟩
noncomputable def k571 (P : Params) : Obj:=⟨.type "dict",none,(.dict ⟨[en P zs4 1033 (.str zs1 840),en P zs6 1037 (.int 299 1036),en P zs11 1039 (.str (S 3 0x746c61) 1038),en P zs7 1040 (.ref 570),en P zs5 1041 (.none)]⟩ 2),⟨[]⟩⟩
noncomputable def k572 (P : Params) : Obj:=⟨.type "type",none,(.cls ⟨zs32,[.ref 548],[.ref 572,.ref 548,.ref 463,.type "object"],571,zs32,true,[],[],false,none,false⟩),⟨[some (.ref 563),none,some (.str zs32 1026),some (.str zs32 1034),some (.builtin "object.__new__"),some (.bool true)]⟩⟩
noncomputable def k587 (P : Params) : Obj:=⟨.type "code",none,(.fields ⟨[.str zs2 1056,.str zs138 1057,.str zs0 1058,.int 303 0,.int 2 0,.int 0 0,.int 0 0,.int 3 0,.ref 582,.bool true,.int 181 0,.ref 583,.none,.ref 584,.ref 585,.ref 586,.int 1061 0,.int 303 0,.str zs0 1062]⟩),⟨[]⟩⟩
noncomputable def k588 (P : Params) : Obj:=(fun (a : Arguments) (b : List Stmt) (s : Scope) (_ : dA pgm 36 0 = a) (_ : dB pgm 36 0 = b) (_ : dS pgm 36 0 = s)=>(⟨.type "function",none,(.func ⟨zs2,zs138,a,.stmts b,s,3,[],.none,.none,.none,.str zs1 840,none,.ref 587,.none,0⟩),⟨[]⟩⟩ : Obj)) _ _ _ (by conv=>lhs;whnf) (by conv=>lhs;whnf) (by conv=>lhs;whnf)
noncomputable def k604 (P : Params) : Obj:=⟨.type "dict",none,(.dict ⟨[en P zs4 1051 (.str zs1 840),en P zs6 1055 (.int 301 1054),en P zs2 1063 (.ref 588),en P zs28 1070 (.ref 595),en P zs8 1077 (.ref 602),en P zs7 1079 (.ref 603),en P zs5 1080 (.none)]⟩ 2),⟨[]⟩⟩
noncomputable def k605 (P : Params) : Obj:=⟨.type "type",none,(.cls ⟨zs13,[.ref 463],[.ref 605,.ref 463,.type "object"],604,zs13,true,[],[.ref 617,.ref 629,.ref 641,.ref 667],false,none,false⟩),⟨[some (.ref 575),none,some (.str zs13 1044),some (.str zs13 1052),some (.builtin "object.__new__"),some (.bool true)]⟩⟩
noncomputable def k616 (P : Params) : Obj:=⟨.type "dict",none,(.dict ⟨[en P zs4 1090 (.str zs1 840),en P zs6 1094 (.int 311 1093),en P zs11 1096 (.str (S 4 0x72617473) 1095),en P zs7 1097 (.ref 615),en P zs5 1098 (.none)]⟩ 2),⟨[]⟩⟩
noncomputable def k617 (P : Params) : Obj:=⟨.type "type",none,(.cls ⟨zs33,[.ref 605],[.ref 617,.ref 605,.ref 463,.type "object"],616,zs33,true,[],[],false,none,false⟩),⟨[some (.ref 608),none,some (.str zs33 1083),some (.str zs33 1091),some (.builtin "object.__new__"),some (.bool true)]⟩⟩
noncomputable def k628 (P : Params) : Obj:=⟨.type "dict",none,(.dict ⟨[en P zs4 1108 (.str zs1 840),en P zs6 1112 (.int 313 1111),en P zs11 1114 (.str (S 4 0x73756c70) 1113),en P zs7 1115 (.ref 627),en P zs5 1116 (.none)]⟩ 2),⟨[]⟩⟩
noncomputable def k629 (P : Params) : Obj:=⟨.type "type",none,(.cls ⟨zs34,[.ref 605],[.ref 629,.ref 605,.ref 463,.type "object"],628,zs34,true,[],[],false,none,false⟩),⟨[some (.ref 620),none,some (.str zs34 1101),some (.str zs34 1109),some (.builtin "object.__new__"),some (.bool true)]⟩⟩
noncomputable def k640 (P : Params) : Obj:=⟨.type "dict",none,(.dict ⟨[en P zs4 1126 (.str zs1 840),en P zs6 1130 (.int 315 1129),en P zs11 1132 (.str (S 3 0x74706f) 1131),en P zs7 1133 (.ref 639),en P zs5 1134 (.none)]⟩ 2),⟨[]⟩⟩
noncomputable def k641 (P : Params) : Obj:=⟨.type "type",none,(.cls ⟨zs35,[.ref 605],[.ref 641,.ref 605,.ref 463,.type "object"],640,zs35,true,[],[],false,none,false⟩),⟨[some (.ref 632),none,some (.str zs35 1119),some (.str zs35 1127),some (.builtin "object.__new__"),some (.bool true)]⟩⟩
noncomputable def k675 (P : Params) : Obj:=⟨.type "code",none,(.fields ⟨[.str zs48 1174,.str zs48 1175,.str zs0 1176,.int 331 0,.int 1 0,.int 0 0,.int 0 0,.int 3 0,.ref 670,.bool true,.int 181 0,.ref 671,.none,.ref 672,.ref 673,.ref 674,.int 1180 0,.int 331 0,.str zs0 1181]⟩),⟨[]⟩⟩
noncomputable def k676 (P : Params) : Obj:=(fun (a : Arguments) (b : List Stmt) (s : Scope) (_ : dA pgm 41 1000 = a) (_ : dB pgm 41 1000 = b) (_ : dS pgm 41 1000 = s)=>(⟨.type "function",none,(.func ⟨zs48,zs48,a,.stmts b,s,3,[],.none,.none,.none,.str zs1 840,none,.ref 675,.none,0⟩),⟨[]⟩⟩ : Obj)) _ _ _ (by conv=>lhs;whnf) (by conv=>lhs;whnf) (by conv=>lhs;whnf)
noncomputable def k677 (P : Params) : Obj:=⟨.type "tuple",none,(.seq ⟨[.int 0 846]⟩ 0),⟨[]⟩⟩
noncomputable def k681 (P : Params) : Obj:=⟨.type "code",none,(.fields ⟨[.str zs49 1183,.str zs49 1184,.str zs0 1185,.int 340 0,.int 2 0,.int 0 0,.int 0 0,.int 3 0,.ref 678,.bool true,.int 181 0,.ref 679,.none,.none,.none,.ref 680,.int 1186 0,.int 340 0,.str zs0 1187]⟩),⟨[]⟩⟩
noncomputable def k682 (P : Params) : Obj:=(fun (a : Arguments) (b : List Stmt) (s : Scope) (_ : dA pgm 42 1000 = a) (_ : dB pgm 42 1000 = b) (_ : dS pgm 42 1000 = s)=>(⟨.type "function",none,(.func ⟨zs49,zs49,a,.stmts b,s,3,[],.ref 677,.none,.none,.str zs1 840,none,.ref 681,.none,0⟩),⟨[]⟩⟩ : Obj)) _ _ _ (by conv=>lhs;whnf) (by conv=>lhs;whnf) (by conv=>lhs;whnf)
noncomputable def k688 (P : Params) : Obj:=⟨.type "code",none,(.fields ⟨[.str zs50 1189,.str zs50 1190,.str zs0 1191,.int 355 0,.int 1 0,.int 0 0,.int 0 0,.int 3 0,.ref 683,.bool true,.int 181 0,.ref 684,.none,.ref 685,.ref 686,.ref 687,.int 1195 0,.int 355 0,.str zs0 1196]⟩),⟨[]⟩⟩
noncomputable def k689 (P : Params) : Obj:=(fun (a : Arguments) (b : List Stmt) (s : Scope) (_ : dA pgm 43 1000 = a) (_ : dB pgm 43 1000 = b) (_ : dS pgm 43 1000 = s)=>(⟨.type "function",none,(.func ⟨zs50,zs50,a,.stmts b,s,3,[],.none,.none,.none,.str zs1 840,none,.ref 688,.none,0⟩),⟨[]⟩⟩ : Obj)) _ _ _ (by conv=>lhs;whnf) (by conv=>lhs;whnf) (by conv=>lhs;whnf)
noncomputable def k709 (P : Params) : Obj:=⟨.type "code",none,(.fields ⟨[.str zs2 1217,.str zs139 1218,.str zs0 1219,.int 368 0,.int 4 0,.int 0 0,.int 0 0,.int 3 0,.ref 704,.bool true,.int 181 0,.ref 705,.none,.ref 706,.ref 707,.ref 708,.int 1224 0,.int 368 0,.str zs0 1225]⟩),⟨[]⟩⟩
noncomputable def k710 (P : Params) : Obj:=(fun (a : Arguments) (b : List Stmt) (s : Scope) (_ : dA pgm 45 0 = a) (_ : dB pgm 45 0 = b) (_ : dS pgm 45 0 = s)=>(⟨.type "function",none,(.func ⟨zs2,zs139,a,.stmts b,s,3,[],.none,.none,.none,.str zs1 840,none,.ref 709,.none,0⟩),⟨[]⟩⟩ : Obj)) _ _ _ (by conv=>lhs;whnf) (by conv=>lhs;whnf) (by conv=>lhs;whnf)
noncomputable def k733 (P : Params) : Obj:=⟨.type "dict",none,(.dict ⟨[en P zs4 1212 (.str zs1 840),en P zs6 1216 (.int 366 1215),en P zs2 1226 (.ref 710),en P (S 5 0x656c6f6877) 1233 (.ref 717),en P zs118 1240 (.ref 724),en P zs8 1248 (.ref 731),en P zs7 1252 (.ref 732),en P zs30 1254 (.ref 735),en P zs23 1256 (.ref 736),en P zs5 1257 (.none)]⟩ 4),⟨[]⟩⟩
noncomputable def k734 (P : Params) : Obj:=⟨.type "type",none,(.cls ⟨zs37,[.type "object"],[.ref 734,.type "object"],733,zs37,true,[],[],false,none,false⟩),⟨[none,none,some (.str zs37 1205),some (.str zs37 1213),some (.builtin "object.__new__"),some (.bool true)]⟩⟩
noncomputable def k765 (P : Params) : Obj:=⟨.type "code",none,(.fields ⟨[.str zs2 1285,.str zs140 1286,.str zs0 1287,.int 392 0,.int 5 0,.int 0 0,.int 0 0,.int 3 0,.ref 760,.bool true,.int 181 0,.ref 761,.none,.ref 762,.ref 763,.ref 764,.int 1293 0,.int 392 0,.str zs0 1294]⟩),⟨[]⟩⟩
noncomputable def k766 (P : Params) : Obj:=(fun (a : Arguments) (b : List Stmt) (s : Scope) (_ : dA pgm 48 0 = a) (_ : dB pgm 48 0 = b) (_ : dS pgm 48 0 = s)=>(⟨.type "function",none,(.func ⟨zs2,zs140,a,.stmts b,s,3,[],.none,.none,.none,.str zs1 840,none,.ref 765,.none,0⟩),⟨[]⟩⟩ : Obj)) _ _ _ (by conv=>lhs;whnf) (by conv=>lhs;whnf) (by conv=>lhs;whnf)
noncomputable def k772 (P : Params) : Obj:=⟨.type "code",none,(.fields ⟨[.str zs100 1296,.str zs141 1297,.str zs0 1298,.int 398 0,.int 3 0,.int 0 0,.int 0 0,.int 3 0,.ref 767,.bool true,.int 181 0,.ref 768,.none,.ref 769,.ref 770,.ref 771,.int 1302 0,.int 398 0,.str zs0 1303]⟩),⟨[]⟩⟩
noncomputable def k773 (P : Params) : Obj:=(fun (a : Arguments) (b : List Stmt) (s : Scope) (_ : dA pgm 48 1 = a) (_ : dB pgm 48 1 = b) (_ : dS pgm 48 1 = s)=>(⟨.type "function",none,(.func ⟨zs100,zs141,a,.stmts b,s,3,[],.none,.none,.none,.str zs1 840,none,.ref 772,.none,0⟩),⟨[]⟩⟩ : Obj)) _ _ _ (by conv=>lhs;whnf) (by conv=>lhs;whnf) (by conv=>lhs;whnf)
noncomputable def k779 (P : Params) : Obj:=⟨.type "code",none,(.fields ⟨[.str zs101 1305,.str zs142 1306,.str zs0 1307,.int 401 0,.int 1 0,.int 0 0,.int 0 0,.int 3 0,.ref 774,.bool true,.int 181 0,.ref 775,.none,.ref 776,.ref 777,.ref 778,.int 1310 0,.int 401 0,.str zs0 1311]⟩),⟨[]⟩⟩
noncomputable def k780 (P : Params) : Obj:=(fun (a : Arguments) (b : List Stmt) (s : Scope) (_ : dA pgm 48 2 = a) (_ : dB pgm 48 2 = b) (_ : dS pgm 48 2 = s)=>(⟨.type "function",none,(.func ⟨zs101,zs142,a,.stmts b,s,3,[],.none,.none,.none,.str zs1 840,none,.ref 779,.none,0⟩),⟨[]⟩⟩ : Obj)) _ _ _ (by conv=>lhs;whnf) (by conv=>lhs;whnf) (by conv=>lhs;whnf)
noncomputable def k786 (P : Params) : Obj:=⟨.type "code",none,(.fields ⟨[.str zs102 1313,.str zs143 1314,.str zs0 1315,.int 405 0,.int 1 0,.int 0 0,.int 0 0,.int 3 0,.ref 781,.bool true,.int 181 0,.ref 782,.none,.ref 783,.ref 784,.ref 785,.int 1318 0,.int 405 0,.str zs0 1319]⟩),⟨[]⟩⟩
noncomputable def k787 (P : Params) : Obj:=(fun (a : Arguments) (b : List Stmt) (s : Scope) (_ : dA pgm 48 3 = a) (_ : dB pgm 48 3 = b) (_ : dS pgm 48 3 = s)=>(⟨.type "function",none,(.func ⟨zs102,zs143,a,.stmts b,s,3,[],.none,.none,.none,.str zs1 840,none,.ref 786,.none,0⟩),⟨[]⟩⟩ : Obj)) _ _ _ (by conv=>lhs;whnf) (by conv=>lhs;whnf) (by conv=>lhs;whnf)
noncomputable def k793 (P : Params) : Obj:=⟨.type "code",none,(.fields ⟨[.str zs103 1321,.str zs144 1322,.str zs0 1323,.int 415 0,.int 1 0,.int 0 0,.int 0 0,.int 3 0,.ref 788,.bool true,.int 181 0,.ref 789,.none,.ref 790,.ref 791,.ref 792,.int 1326 0,.int 415 0,.str zs0 1327]⟩),⟨[]⟩⟩
noncomputable def k794 (P : Params) : Obj:=(fun (a : Arguments) (b : List Stmt) (s : Scope) (_ : dA pgm 48 4 = a) (_ : dB pgm 48 4 = b) (_ : dS pgm 48 4 = s)=>(⟨.type "function",none,(.func ⟨zs103,zs144,a,.stmts b,s,3,[],.none,.none,.none,.str zs1 840,none,.ref 793,.none,0⟩),⟨[]⟩⟩ : Obj)) _ _ _ (by conv=>lhs;whnf) (by conv=>lhs;whnf) (by conv=>lhs;whnf)
noncomputable def k800 (P : Params) : Obj:=⟨.type "code",none,(.fields ⟨[.str zs104 1329,.str zs145 1330,.str zs0 1331,.int 421 0,.int 1 0,.int 0 0,.int 0 0,.int 3 0,.ref 795,.bool true,.int 181 0,.ref 796,.none,.ref 797,.ref 798,.ref 799,.int 1334 0,.int 421 0,.str zs0 1335]⟩),⟨[]⟩⟩
noncomputable def k801 (P : Params) : Obj:=(fun (a : Arguments) (b : List Stmt) (s : Scope) (_ : dA pgm 48 5 = a) (_ : dB pgm 48 5 = b) (_ : dS pgm 48 5 = s)=>(⟨.type "function",none,(.func ⟨zs104,zs145,a,.stmts b,s,3,[],.none,.none,.none,.str zs1 840,none,.ref 800,.none,0⟩),⟨[]⟩⟩ : Obj)) _ _ _ (by conv=>lhs;whnf) (by conv=>lhs;whnf) (by conv=>lhs;whnf)
noncomputable def k807 (P : Params) : Obj:=⟨.type "code",none,(.fields ⟨[.str zs105 1337,.str zs146 1338,.str zs0 1339,.int 427 0,.int 2 0,.int 0 0,.int 0 0,.int 3 0,.ref 802,.bool true,.int 181 0,.ref 803,.none,.ref 804,.ref 805,.ref 806,.int 1345 0,.int 427 0,.str zs0 1346]⟩),⟨[]⟩⟩
noncomputable def k808 (P : Params) : Obj:=(fun (a : Arguments) (b : List Stmt) (s : Scope) (_ : dA pgm 48 6 = a) (_ : dB pgm 48 6 = b) (_ : dS pgm 48 6 = s)=>(⟨.type "function",none,(.func ⟨zs105,zs146,a,.stmts b,s,3,[],.none,.none,.none,.str zs1 840,none,.ref 807,.none,0⟩),⟨[]⟩⟩ : Obj)) _ _ _ (by conv=>lhs;whnf) (by conv=>lhs;whnf) (by conv=>lhs;whnf)
noncomputable def k828 (P : Params) : Obj:=⟨.type "code",none,(.fields ⟨[.str zs106 1369,.str zs147 1370,.str zs0 1371,.int 469 0,.int 1 0,.int 0 0,.int 0 0,.int 3 0,.ref 823,.bool true,.int 181 0,.ref 824,.none,.ref 825,.ref 826,.ref 827,.int 1377 0,.int 469 0,.str zs0 1378]⟩),⟨[]⟩⟩
noncomputable def k829 (P : Params) : Obj:=(fun (a : Arguments) (b : List Stmt) (s : Scope) (_ : dA pgm 48 9 = a) (_ : dB pgm 48 9 = b) (_ : dS pgm 48 9 = s)=>(⟨.type "function",none,(.func ⟨zs106,zs147,a,.stmts b,s,3,[],.none,.none,.none,.str zs1 840,none,.ref 828,.none,0⟩),⟨[]⟩⟩ : Obj)) _ _ _ (by conv=>lhs;whnf) (by conv=>lhs;whnf) (by conv=>lhs;whnf)
noncomputable def k835 (P : Params) : Obj:=⟨.type "code",none,(.fields ⟨[.str zs107 1380,.str zs148 1381,.str zs0 1382,.int 494 0,.int 3 0,.int 0 0,.int 0 0,.int 3 0,.ref 830,.bool true,.int 181 0,.ref 831,.none,.ref 832,.ref 833,.ref 834,.int 1388 0,.int 494 0,.str zs0 1389]⟩),⟨[]⟩⟩
noncomputable def k836 (P : Params) : Obj:=(fun (a : Arguments) (b : List Stmt) (s : Scope) (_ : dA pgm 48 10 = a) (_ : dB pgm 48 10 = b) (_ : dS pgm 48 10 = s)=>(⟨.type "function",none,(.func ⟨zs107,zs148,a,.stmts b,s,3,[],.none,.none,.none,.str zs1 840,none,.ref 835,.none,0⟩),⟨[]⟩⟩ : Obj)) _ _ _ (by conv=>lhs;whnf) (by conv=>lhs;whnf) (by conv=>lhs;whnf)
noncomputable def k840 (P : Params) : Obj:=⟨.type "code",none,(.fields ⟨[.str zs36 1391,.str zs149 1392,.str zs0 1393,.int 507 0,.int 2 0,.int 0 0,.int 0 0,.int 3 0,.ref 837,.bool true,.int 181 0,.ref 838,.none,.none,.none,.ref 839,.int 1394 0,.int 507 0,.str zs0 1395]⟩),⟨[]⟩⟩
noncomputable def k841 (P : Params) : Obj:=(fun (a : Arguments) (b : List Stmt) (s : Scope) (_ : dA pgm 48 11 = a) (_ : dB pgm 48 11 = b) (_ : dS pgm 48 11 = s)=>(⟨.type "function",none,(.func ⟨zs36,zs149,a,.stmts b,s,3,[],.none,.none,.none,.str zs1 840,none,.ref 840,.none,0⟩),⟨[]⟩⟩ : Obj)) _ _ _ (by conv=>lhs;whnf) (by conv=>lhs;whnf) (by conv=>lhs;whnf)
noncomputable def k847 (P : Params) : Obj:=⟨.type "code",none,(.fields ⟨[.str zs108 1397,.str zs150 1398,.str zs0 1399,.int 519 0,.int 2 0,.int 0 0,.int 0 0,.int 3 0,.ref 842,.bool true,.int 181 0,.ref 843,.none,.ref 844,.ref 845,.ref 846,.int 1403 0,.int 519 0,.str zs0 1404]⟩),⟨[]⟩⟩
noncomputable def k848 (P : Params) : Obj:=(fun (a : Arguments) (b : List Stmt) (s : Scope) (_ : dA pgm 48 12 = a) (_ : dB pgm 48 12 = b) (_ : dS pgm 48 12 = s)=>(⟨.type "function",none,(.func ⟨zs108,zs150,a,.stmts b,s,3,[],.none,.none,.none,.str zs1 840,none,.ref 847,.none,0⟩),⟨[]⟩⟩ : Obj)) _ _ _ (by conv=>lhs;whnf) (by conv=>lhs;whnf) (by conv=>lhs;whnf)
noncomputable def k878 (P : Params) : Obj:=⟨.type "dict",none,(.dict ⟨[en P zs4 1280 (.str zs1 840),en P zs6 1284 (.int 390 1283),en P zs2 1295 (.ref 766),en P zs100 1304 (.ref 773),en P zs101 1312 (.ref 780),en P zs102 1320 (.ref 787),en P zs103 1328 (.ref 794),en P zs104 1336 (.ref 801),en P zs105 1347 (.ref 808),en P (S 7 0x6465746e756f63) 1358 (.ref 815),en P (S 5 0x746e756f63) 1368 (.ref 822),en P zs106 1379 (.ref 829),en P zs107 1390 (.ref 836),en P zs36 1396 (.ref 841),en P zs108 1405 (.ref 848),en P zs119 1418 (.ref 855),en P (S 5 0x64656d616e) 1427 (.ref 862),en P zs45 1437 (.ref 869),en P (S 6 0x7265626d656d) 1446 (.ref 876),en P zs7 1451 (.ref 877),en P zs30 1453 (.ref 880),en P zs23 1455 (.ref 881),en P zs5 1456 (.none)]⟩ 4),⟨[]⟩⟩
noncomputable def k879 (P : Params) : Obj:=⟨.type "type",none,(.cls ⟨zs51,[.type "object"],[.ref 879,.type "object"],878,zs51,true,[],[],false,none,false⟩),⟨[none,none,some (.str zs51 1273),some (.str zs51 1281),some (.builtin "object.__new__"),some (.bool true)]⟩⟩
noncomputable def k884 (P : Params) : Obj:=⟨.type "tuple",none,(.seq ⟨[.none]⟩ 0),⟨[]⟩⟩
noncomputable def k890 (P : Params) : Obj:=⟨.type "code",none,(.fields ⟨[.str zs66 1459,.str zs66 1460,.str zs0 1461,.int 571 0,.int 2 0,.int 0 0,.int 0 0,.int 3 0,.ref 885,.bool true,.int 181 0,.ref 886,.none,.ref 887,.ref 888,.ref 889,.int 1466 0,.int 571 0,.str zs0 1467]⟩),⟨[]⟩⟩
noncomputable def k891 (P : Params) : Obj:=(fun (a : Arguments) (b : List Stmt) (s : Scope) (_ : dA pgm 49 1000 = a) (_ : dB pgm 49 1000 = b) (_ : dS pgm 49 1000 = s)=>(⟨.type "function",none,(.func ⟨zs66,zs66,a,.stmts b,s,3,[],.ref 884,.none,.none,.str zs1 840,none,.ref 890,.none,0⟩),⟨[]⟩⟩ : Obj)) _ _ _ (by conv=>lhs;whnf) (by conv=>lhs;whnf) (by conv=>lhs;whnf)
noncomputable def k892 (P : Params) : Obj:=⟨.type "tuple",none,(.seq ⟨[.none]⟩ 0),⟨[]⟩⟩
noncomputable def k898 (P : Params) : Obj:=⟨.type "code",none,(.fields ⟨[.str zs67 1469,.str zs67 1470,.str zs0 1471,.int 579 0,.int 3 0,.int 0 0,.int 0 0,.int 3 0,.ref 893,.bool true,.int 181 0,.ref 894,.none,.ref 895,.ref 896,.ref 897,.int 1483 0,.int 579 0,.str zs0 1484]⟩),⟨[]⟩⟩
noncomputable def k899 (P : Params) : Obj:=(fun (a : Arguments) (b : List Stmt) (s : Scope) (_ : dA pgm 50 1000 = a) (_ : dB pgm 50 1000 = b) (_ : dS pgm 50 1000 = s)=>(⟨.type "function",none,(.func ⟨zs67,zs67,a,.stmts b,s,3,[],.ref 892,.none,.none,.str zs1 840,none,.ref 898,.none,0⟩),⟨[]⟩⟩ : Obj)) _ _ _ (by conv=>lhs;whnf) (by conv=>lhs;whnf) (by conv=>lhs;whnf)
noncomputable def k905 (P : Params) : Obj:=⟨.type "code",none,(.fields ⟨[.str zs68 1488,.str zs68 1489,.str zs0 1490,.int 606 0,.int 1 0,.int 0 0,.int 0 0,.int 3 0,.ref 900,.bool true,.int 181 0,.ref 901,.none,.ref 902,.ref 903,.ref 904,.int 1494 0,.int 606 0,.str zs0 1495]⟩),⟨[]⟩⟩
noncomputable def k906 (P : Params) : Obj:=(fun (a : Arguments) (b : List Stmt) (s : Scope) (_ : dA pgm 52 1000 = a) (_ : dB pgm 52 1000 = b) (_ : dS pgm 52 1000 = s)=>(⟨.type "function",none,(.func ⟨zs68,zs68,a,.stmts b,s,3,[],.none,.none,.none,.str zs21 1486,none,.ref 905,.none,0⟩),⟨[]⟩⟩ : Obj)) _ _ _ (by conv=>lhs;whnf) (by conv=>lhs;whnf) (by conv=>lhs;whnf)
noncomputable def k912 (P : Params) : Obj:=⟨.type "code",none,(.fields ⟨[.str zs69 1497,.str zs69 1498,.str zs0 1499,.int 611 0,.int 2 0,.int 0 0,.int 0 0,.int 3 0,.ref 907,.bool true,.int 181 0,.ref 908,.none,.ref 909,.ref 910,.ref 911,.int 1503 0,.int 611 0,.str zs0 1504]⟩),⟨[]⟩⟩
noncomputable def k913 (P : Params) : Obj:=(fun (a : Arguments) (b : List Stmt) (s : Scope) (_ : dA pgm 53 1000 = a) (_ : dB pgm 53 1000 = b) (_ : dS pgm 53 1000 = s)=>(⟨.type "function",none,(.func ⟨zs69,zs69,a,.stmts b,s,3,[],.none,.none,.none,.str zs21 1486,none,.ref 912,.none,0⟩),⟨[]⟩⟩ : Obj)) _ _ _ (by conv=>lhs;whnf) (by conv=>lhs;whnf) (by conv=>lhs;whnf)
noncomputable def k919 (P : Params) : Obj:=⟨.type "code",none,(.fields ⟨[.str zs70 1506,.str zs70 1507,.str zs0 1508,.int 618 0,.int 1 0,.int 0 0,.int 0 0,.int 3 0,.ref 914,.bool true,.int 181 0,.ref 915,.none,.ref 916,.ref 917,.ref 918,.int 1510 0,.int 618 0,.str zs0 1511]⟩),⟨[]⟩⟩
noncomputable def k920 (P : Params) : Obj:=(fun (a : Arguments) (b : List Stmt) (s : Scope) (_ : dA pgm 54 1000 = a) (_ : dB pgm 54 1000 = b) (_ : dS pgm 54 1000 = s)=>(⟨.type "function",none,(.func ⟨zs70,zs70,a,.stmts b,s,3,[],.none,.none,.none,.str zs21 1486,none,.ref 919,.none,0⟩),⟨[]⟩⟩ : Obj)) _ _ _ (by conv=>lhs;whnf) (by conv=>lhs;whnf) (by conv=>lhs;whnf)
noncomputable def k926 (P : Params) : Obj:=⟨.type "code",none,(.fields ⟨[.str zs71 1513,.str zs71 1514,.str zs0 1515,.int 620 0,.int 1 0,.int 0 0,.int 0 0,.int 3 0,.ref 921,.bool true,.int 181 0,.ref 922,.none,.ref 923,.ref 924,.ref 925,.int 1517 0,.int 620 0,.str zs0 1518]⟩),⟨[]⟩⟩
noncomputable def k927 (P : Params) : Obj:=(fun (a : Arguments) (b : List Stmt) (s : Scope) (_ : dA pgm 55 1000 = a) (_ : dB pgm 55 1000 = b) (_ : dS pgm 55 1000 = s)=>(⟨.type "function",none,(.func ⟨zs71,zs71,a,.stmts b,s,3,[],.none,.none,.none,.str zs21 1486,none,.ref 926,.none,0⟩),⟨[]⟩⟩ : Obj)) _ _ _ (by conv=>lhs;whnf) (by conv=>lhs;whnf) (by conv=>lhs;whnf)
noncomputable def k933 (P : Params) : Obj:=⟨.type "code",none,(.fields ⟨[.str zs72 1520,.str zs72 1521,.str zs0 1522,.int 628 0,.int 2 0,.int 0 0,.int 0 0,.int 3 0,.ref 928,.bool true,.int 181 0,.ref 929,.none,.ref 930,.ref 931,.ref 932,.int 1525 0,.int 628 0,.str zs0 1526]⟩),⟨[]⟩⟩
noncomputable def k934 (P : Params) : Obj:=(fun (a : Arguments) (b : List Stmt) (s : Scope) (_ : dA pgm 56 1000 = a) (_ : dB pgm 56 1000 = b) (_ : dS pgm 56 1000 = s)=>(⟨.type "function",none,(.func ⟨zs72,zs72,a,.stmts b,s,3,[],.none,.none,.none,.str zs21 1486,none,.ref 933,.none,0⟩),⟨[]⟩⟩ : Obj)) _ _ _ (by conv=>lhs;whnf) (by conv=>lhs;whnf) (by conv=>lhs;whnf)
noncomputable def k940 (P : Params) : Obj:=⟨.type "code",none,(.fields ⟨[.str zs73 1528,.str zs73 1529,.str zs0 1530,.int 630 0,.int 2 0,.int 0 0,.int 0 0,.int 3 0,.ref 935,.bool true,.int 181 0,.ref 936,.none,.ref 937,.ref 938,.ref 939,.int 1534 0,.int 630 0,.str zs0 1535]⟩),⟨[]⟩⟩
noncomputable def k941 (P : Params) : Obj:=(fun (a : Arguments) (b : List Stmt) (s : Scope) (_ : dA pgm 57 1000 = a) (_ : dB pgm 57 1000 = b) (_ : dS pgm 57 1000 = s)=>(⟨.type "function",none,(.func ⟨zs73,zs73,a,.stmts b,s,3,[],.none,.none,.none,.str zs21 1486,none,.ref 940,.none,0⟩),⟨[]⟩⟩ : Obj)) _ _ _ (by conv=>lhs;whnf) (by conv=>lhs;whnf) (by conv=>lhs;whnf)
noncomputable def k947 (P : Params) : Obj:=⟨.type "code",none,(.fields ⟨[.str zs74 1537,.str zs74 1538,.str zs0 1539,.int 635 0,.int 2 0,.int 0 0,.int 0 0,.int 3 0,.ref 942,.bool true,.int 181 0,.ref 943,.none,.ref 944,.ref 945,.ref 946,.int 1545 0,.int 635 0,.str zs0 1546]⟩),⟨[]⟩⟩
noncomputable def k948 (P : Params) : Obj:=(fun (a : Arguments) (b : List Stmt) (s : Scope) (_ : dA pgm 58 1000 = a) (_ : dB pgm 58 1000 = b) (_ : dS pgm 58 1000 = s)=>(⟨.type "function",none,(.func ⟨zs74,zs74,a,.stmts b,s,3,[],.none,.none,.none,.str zs21 1486,none,.ref 947,.none,0⟩),⟨[]⟩⟩ : Obj)) _ _ _ (by conv=>lhs;whnf) (by conv=>lhs;whnf) (by conv=>lhs;whnf)
noncomputable def k954 (P : Params) : Obj:=⟨.type "code",none,(.fields ⟨[.str zs75 1548,.str zs75 1549,.str zs0 1550,.int 641 0,.int 3 0,.int 0 0,.int 0 0,.int 3 0,.ref 949,.bool true,.int 181 0,.ref 950,.none,.ref 951,.ref 952,.ref 953,.int 1556 0,.int 641 0,.str zs0 1557]⟩),⟨[]⟩⟩
noncomputable def k955 (P : Params) : Obj:=(fun (a : Arguments) (b : List Stmt) (s : Scope) (_ : dA pgm 59 1000 = a) (_ : dB pgm 59 1000 = b) (_ : dS pgm 59 1000 = s)=>(⟨.type "function",none,(.func ⟨zs75,zs75,a,.stmts b,s,3,[],.none,.none,.none,.str zs21 1486,none,.ref 954,.none,0⟩),⟨[]⟩⟩ : Obj)) _ _ _ (by conv=>lhs;whnf) (by conv=>lhs;whnf) (by conv=>lhs;whnf)
noncomputable def k961 (P : Params) : Obj:=⟨.type "code",none,(.fields ⟨[.str zs76 1559,.str zs76 1560,.str zs0 1561,.int 656 0,.int 4 0,.int 0 0,.int 0 0,.int 3 0,.ref 956,.bool true,.int 181 0,.ref 957,.none,.ref 958,.ref 959,.ref 960,.int 1567 0,.int 656 0,.str zs0 1568]⟩),⟨[]⟩⟩
noncomputable def k962 (P : Params) : Obj:=(fun (a : Arguments) (b : List Stmt) (s : Scope) (_ : dA pgm 60 1000 = a) (_ : dB pgm 60 1000 = b) (_ : dS pgm 60 1000 = s)=>(⟨.type "function",none,(.func ⟨zs76,zs76,a,.stmts b,s,3,[],.none,.none,.none,.str zs21 1486,none,.ref 961,.none,0⟩),⟨[]⟩⟩ : Obj)) _ _ _ (by conv=>lhs;whnf) (by conv=>lhs;whnf) (by conv=>lhs;whnf)
noncomputable def k966 (P : Params) : Obj:=⟨.type "code",none,(.fields ⟨[.str zs79 1570,.str zs79 1571,.str zs0 1572,.int 665 0,.int 1 0,.int 0 0,.int 0 0,.int 3 0,.ref 963,.bool true,.int 181 0,.ref 964,.none,.none,.none,.ref 965,.int 1573 0,.int 665 0,.str zs0 1574]⟩),⟨[]⟩⟩
noncomputable def k967 (P : Params) : Obj:=(fun (a : Arguments) (b : List Stmt) (s : Scope) (_ : dA pgm 61 1000 = a) (_ : dB pgm 61 1000 = b) (_ : dS pgm 61 1000 = s)=>(⟨.type "function",none,(.func ⟨zs79,zs79,a,.stmts b,s,3,[],.none,.none,.none,.str zs21 1486,none,.ref 966,.none,0⟩),⟨[]⟩⟩ : Obj)) _ _ _ (by conv=>lhs;whnf) (by conv=>lhs;whnf) (by conv=>lhs;whnf)
noncomputable def KF : Params → Frag:=fun P=>(nat_lit 2,k2 P) :: (nat_lit 3,k3 P) :: (nat_lit 35,k35 P) :: (nat_lit 36,k36 P) :: (nat_lit 45,k45 P) :: (nat_lit 46,k46 P) :: (nat_lit 56,k56 P) :: (nat_lit 57,k57 P) :: (nat_lit 65,k65 P) :: (nat_lit 71,k71 P) :: (nat_lit 72,k72 P) :: (nat_lit 81,k81 P) :: (nat_lit 82,k82 P) :: (nat_lit 94,k94 P) :: (nat_lit 95,k95 P) :: (nat_lit 105,k105 P) :: (nat_lit 111,k111 P) :: (nat_lit 112,k112 P) :: (nat_lit 118,k118 P) :: (nat_lit 119,k119 P) :: (nat_lit 120,k120 P) :: (nat_lit 126,k126 P) :: (nat_lit 127,k127 P) :: (nat_lit 133,k133 P) :: (nat_lit 134,k134 P) :: (nat_lit 140,k140 P) :: (nat_lit 141,k141 P) :: (nat_lit 147,k147 P) :: (nat_lit 148,k148 P) :: (nat_lit 154,k154 P) :: (nat_lit 155,k155 P) :: (nat_lit 176,k176 P) :: (nat_lit 177,k177 P) :: (nat_lit 218,k218 P) :: (nat_lit 219,k219 P) :: (nat_lit 221,k221 P) :: (nat_lit 222,k222 P) :: (nat_lit 275,k275 P) :: (nat_lit 276,k276 P) :: (nat_lit 310,k310 P) :: (nat_lit 311,k311 P) :: (nat_lit 313,k313 P) :: (nat_lit 320,k320 P) :: (nat_lit 321,k321 P) :: (nat_lit 323,k323 P) :: (nat_lit 330,k330 P) :: (nat_lit 331,k331 P) :: (nat_lit 333,k333 P) :: (nat_lit 424,k424 P) :: (nat_lit 425,k425 P) :: (nat_lit 427,k427 P) :: (nat_lit 428,k428 P) :: (nat_lit 459,k459 P) :: (nat_lit 460,k460 P) :: (nat_lit 462,k462 P) :: (nat_lit 463,k463 P) :: (nat_lit 476,k476 P) :: (nat_lit 477,k477 P) :: (nat_lit 504,k504 P) :: (nat_lit 505,k505 P) :: (nat_lit 511,k511 P) :: (nat_lit 512,k512 P) :: (nat_lit 514,k514 P) :: (nat_lit 515,k515 P) :: (nat_lit 530,k530 P) :: (nat_lit 531,k531 P) :: (nat_lit 544,k544 P) :: (nat_lit 545,k545 P) :: (nat_lit 547,k547 P) :: (nat_lit 548,k548 P) :: (nat_lit 559,k559 P) :: (nat_lit 560,k560 P) :: (nat_lit 571,k571 P) :: (nat_lit 572,k572 P) :: (nat_lit 587,k587 P) :: (nat_lit 588,k588 P) :: (nat_lit 604,k604 P) :: (nat_lit 605,k605 P) :: (nat_lit 616,k616 P) :: (nat_lit 617,k617 P) :: (nat_lit 628,k628 P) :: (nat_lit 629,k629 P) :: (nat_lit 640,k640 P) :: (nat_lit 641,k641 P) :: (nat_lit 675,k675 P) :: (nat_lit 676,k676 P) :: (nat_lit 677,k677 P) :: (nat_lit 681,k681 P) :: (nat_lit 682,k682 P) :: (nat_lit 688,k688 P) :: (nat_lit 689,k689 P) :: (nat_lit 709,k709 P) :: (nat_lit 710,k710 P) :: (nat_lit 733,k733 P) :: (nat_lit 734,k734 P) :: (nat_lit 765,k765 P) :: (nat_lit 766,k766 P) :: (nat_lit 772,k772 P) :: (nat_lit 773,k773 P) :: (nat_lit 779,k779 P) :: (nat_lit 780,k780 P) :: (nat_lit 786,k786 P) :: (nat_lit 787,k787 P) :: (nat_lit 793,k793 P) :: (nat_lit 794,k794 P) :: (nat_lit 800,k800 P) :: (nat_lit 801,k801 P) :: (nat_lit 807,k807 P) :: (nat_lit 808,k808 P) :: (nat_lit 828,k828 P) :: (nat_lit 829,k829 P) :: (nat_lit 835,k835 P) :: (nat_lit 836,k836 P) :: (nat_lit 840,k840 P) :: (nat_lit 841,k841 P) :: (nat_lit 847,k847 P) :: (nat_lit 848,k848 P) :: (nat_lit 878,k878 P) :: (nat_lit 879,k879 P) :: (nat_lit 884,k884 P) :: (nat_lit 890,k890 P) :: (nat_lit 891,k891 P) :: (nat_lit 892,k892 P) :: (nat_lit 898,k898 P) :: (nat_lit 899,k899 P) :: (nat_lit 905,k905 P) :: (nat_lit 906,k906 P) :: (nat_lit 912,k912 P) :: (nat_lit 913,k913 P) :: (nat_lit 919,k919 P) :: (nat_lit 920,k920 P) :: (nat_lit 926,k926 P) :: (nat_lit 927,k927 P) :: (nat_lit 933,k933 P) :: (nat_lit 934,k934 P) :: (nat_lit 940,k940 P) :: (nat_lit 941,k941 P) :: (nat_lit 947,k947 P) :: (nat_lit 948,k948 P) :: (nat_lit 954,k954 P) :: (nat_lit 955,k955 P) :: (nat_lit 961,k961 P) :: (nat_lit 962,k962 P) :: (nat_lit 966,k966 P) :: (nat_lit 967,k967 P) :: []
noncomputable def kas : List Nat:=[nat_lit 2,nat_lit 3,nat_lit 35,nat_lit 36,nat_lit 45,nat_lit 46,nat_lit 56,nat_lit 57,nat_lit 65,nat_lit 71,nat_lit 72,nat_lit 81,nat_lit 82,nat_lit 94,nat_lit 95,nat_lit 105,nat_lit 111,nat_lit 112,nat_lit 118,nat_lit 119,nat_lit 120,nat_lit 126,nat_lit 127,nat_lit 133,nat_lit 134,nat_lit 140,nat_lit 141,nat_lit 147,nat_lit 148,nat_lit 154,nat_lit 155,nat_lit 176,nat_lit 177,nat_lit 218,nat_lit 219,nat_lit 221,nat_lit 222,nat_lit 275,nat_lit 276,nat_lit 310,nat_lit 311,nat_lit 313,nat_lit 320,nat_lit 321,nat_lit 323,nat_lit 330,nat_lit 331,nat_lit 333,nat_lit 424,nat_lit 425,nat_lit 427,nat_lit 428,nat_lit 459,nat_lit 460,nat_lit 462,nat_lit 463,nat_lit 476,nat_lit 477,nat_lit 504,nat_lit 505,nat_lit 511,nat_lit 512,nat_lit 514,nat_lit 515,nat_lit 530,nat_lit 531,nat_lit 544,nat_lit 545,nat_lit 547,nat_lit 548,nat_lit 559,nat_lit 560,nat_lit 571,nat_lit 572,nat_lit 587,nat_lit 588,nat_lit 604,nat_lit 605,nat_lit 616,nat_lit 617,nat_lit 628,nat_lit 629,nat_lit 640,nat_lit 641,nat_lit 675,nat_lit 676,nat_lit 677,nat_lit 681,nat_lit 682,nat_lit 688,nat_lit 689,nat_lit 709,nat_lit 710,nat_lit 733,nat_lit 734,nat_lit 765,nat_lit 766,nat_lit 772,nat_lit 773,nat_lit 779,nat_lit 780,nat_lit 786,nat_lit 787,nat_lit 793,nat_lit 794,nat_lit 800,nat_lit 801,nat_lit 807,nat_lit 808,nat_lit 828,nat_lit 829,nat_lit 835,nat_lit 836,nat_lit 840,nat_lit 841,nat_lit 847,nat_lit 848,nat_lit 878,nat_lit 879,nat_lit 884,nat_lit 890,nat_lit 891,nat_lit 892,nat_lit 898,nat_lit 899,nat_lit 905,nat_lit 906,nat_lit 912,nat_lit 913,nat_lit 919,nat_lit 920,nat_lit 926,nat_lit 927,nat_lit 933,nat_lit 934,nat_lit 940,nat_lit 941,nat_lit 947,nat_lit 948,nat_lit 954,nat_lit 955,nat_lit 961,nat_lit 962,nat_lit 966,nat_lit 967]
theorem kas_eq (P : Params) : kas = (KF P).map (·.1):=by kernel_rfl
theorem k_at (P : Params) : kas.map (H1 P).get? = (KF P).map fun x=>some x.2:=by kernel_rfl
set_option maxHeartbeats 0
noncomputable abbrev hk : Hook:=kHook KF kas kas_eq
theorem run_all (w : World) (os : OsState) : topRun treeTable pgm w 11 annM (12 + (1 + (134 + (116 + (767 + (735 + (295 + (1623 + (595 + (821 + (780 + (709 + (744 + (819 + (389 + 2))))))))))))))) (sh H0 boot_toks w os) (topStub pgm) = some (s1 w os):=by
  refine go_top (pre_go w os) ?_
  refine piece_block (block_run w os) ?_
  rw [body_parts]
  refine piece_app (segRun_of (pc0 w os)) ?_
  refine piece_app (segRun_of (pc1 w os)) ?_
  refine piece_app (segRun_of (pc2 w os)) ?_
  refine piece_app (segRun_of (pc3 w os)) ?_
  refine piece_app (segRun_of (pc4 w os)) ?_
  refine piece_app (segRun_of (pc5 w os)) ?_
  refine piece_app (segRun_of (pc6 w os)) ?_
  refine piece_app (segRun_of (pc7 w os)) ?_
  refine piece_app (segRun_of (pc8 w os)) ?_
  refine piece_app (segRun_of (pc9 w os)) ?_
  refine piece_app (segRun_of (pc10 w os)) ?_
  refine piece_app (segRun_of (pc11 w os)) ?_
  refine piece_app (segRun_of (pc12 w os)) ?_
  refine piece_nil ((fin_run w os).trans ?_)
  unfold SharedT.abs stO s1
  dsimp only
  rw [fin_heap]
theorem size0 (w : World) : ((boot_heap w.params).isNs mainGlobals && (Array.mk [] : Array GenState).size == 0,(boot_heap w.params).objs.size,(boot_heap w.params).nsMap mainGlobals "__annotations__") = (true,11,annM):=by
  kernel_rfl
theorem looks (w : World) : (fun os=>((staticsOk (importedModules pgm.main.body) (boot_heap w.params) (H1 w.params) && namesBound pgm (H1 w.params) && gensDone ⟨H1 w.params,⟨[]⟩,boot_drawn,1576,os⟩ && laidKept (boot_heap w.params) (H1 w.params)),
    openSeen qv looseL (importedModules pgm.main.body) Xt true ⟨H1 w.params,⟨[]⟩,boot_drawn,1576,os⟩,hk.obs ⟨H1 w.params,⟨[]⟩,boot_drawn,1576,os⟩)) = fun _=>(true,openGood qv looseL,hk.val w):=by
  funext os
  exact Prod.ext (congrFun (look1 w) os) (Prod.ext (congrFun (look2 w) os) (k_at w.params))
theorem left : LeftO pgm qv looseL Xt hk.obs hk.val 20000 true :=
  LeftO.of_pieces (H₀:=boot_heap) (H₁:=H1) (boot_open (by kernel_rfl) rfl (fun s=>by kernel_rfl)) size0 run_all rfl looks
open PySem.Spec
set_option maxHeartbeats 8000000
abbrev Led:=List (Addr × Obj)
abbrev PR : Program:=PySem.Challenge.rw_sf0023_01.row.prog
structure Ups {α : Type} (Q D : α → Shared → Prop) : Prop where
  up : ∀ v s,Q v s → D v s
theorem genQ {α : Type} {M : Model} {A : Around} {t : Sem α} {Q : α → Shared → Prop} {E : Value → Shared → Prop} {a : Heap} {b : Array GenState} {c : Drawn} {d : Nat} {e : OsState} (h : ∀ D k,Ups Q D → wpAny M A t D E ⟨a,b,c,k,e⟩) : wpAny M A t Q E ⟨a,b,c,d,e⟩:=h Q d ⟨fun _ _ h=>h⟩
structure StD (M : Model) (A : Around) (rest : List Stmt) (env : Env) (Q : Flow → Shared → Prop) (E : Value → Shared → Prop) (D : Flow → Shared → Prop) : Prop where
  nx : ∀ s,wpAny M A (execs rest env) Q E s → D .next s
  rt : ∀ v s,Q (.ret v) s → D (.ret v) s
  bk : ∀ s,Q .brk s → D .brk s
  ct : ∀ s,Q .cont s → D .cont s
theorem execs_st {M : Model} {A : Around} {st : Stmt} {rest : List Stmt} {env : Env} {Q : Flow → Shared → Prop} {E : Value → Shared → Prop} {a : Heap} {b : Array GenState} {c : Drawn} {d : Nat} {e : OsState} (h : ∀ D k,StD M A rest env Q E D → wpAny M A (exec st env) D E ⟨a,b,c,k,e⟩) : wpAny M A (execs (st :: rest) env) Q E ⟨a,b,c,d,e⟩:=wpAny_execs_cons (h _ d ⟨fun _ h=>h,fun _ _ h=>h,fun _ h=>h,fun _ h=>h⟩)
theorem execs_one {M : Model} {A : Around} {st : Stmt} {env : Env} {Q : Flow → Shared → Prop} {E : Value → Shared → Prop} {a : Heap} {b : Array GenState} {c : Drawn} {d : Nat} {e : OsState} (h : ∀ k,wpAny M A (exec st env) Q E ⟨a,b,c,k,e⟩) : wpAny M A (execs [st] env) Q E ⟨a,b,c,d,e⟩:=wpAny_execs_cons (wpAny_mono (h d) (fun f s' hh=>by
  cases f
  · exact wpAny_execs_nil hh
  all_goals exact hh) (fun _ _ x=>x))
theorem gen {P : Prop} (h : ∀ G : Prop,(P → G) → G) : P:=h P id
theorem mem_mid {α : Type} {P ex N tl : List α} {q : α} (h : q ∈ P ++ (ex ++ (N ++ tl))) : q ∈ N ++ (P ++ (ex ++ tl)) :=
  (List.mem_append.mp h).elim (fun h=>List.mem_append_right _ (List.mem_append_left _ h)) fun h=>(List.mem_append.mp h).elim (fun h=>List.mem_append_right _ (List.mem_append_right _ (List.mem_append_left _ h))) fun h =>
    (List.mem_append.mp h).elim (fun h=>List.mem_append_left _ h) fun h=>List.mem_append_right _ (List.mem_append_right _ (List.mem_append_right _ h))
theorem mem_swap {α : Type} {P N tl : List α} {q : α} (h : q ∈ P ++ (N ++ tl)) : q ∈ N ++ (P ++ tl):=mem_mid (ex:=[]) h
theorem all_app {α : Type} {p : α → Prop} {a b : List α} (h1 : ∀ q ∈ a,p q) (h2 : ∀ q ∈ b,p q) : ∀ q ∈ a ++ b,p q:=fun q hq=>(List.mem_append.mp hq).elim (h1 q) (h2 q)
def Done (g : Heap) (s : Shared) (Post : Value → Led → Prop) (v : Value) (s' : Shared) : Prop :=
  ∃ L' m' own' h' tk',s' = { s with heap:=h',toks:=tk' } ∧ Fr g L' h' m' ∧ News g L' h' own' ∧ Post v own'
def Sat (w : World) (f : Addr) (n : Nat) (vs : List Value) (own : Led) (Post : Value → Led → Prop) : Prop :=
  ∀ (p : Program) (loose : List Str) (mean : ExcName → Option Value) (mg mb : Str → Option Value) (dp un : Nat) (gd : Option (List Code)) (cn : Str) (cs : Scope) (a : Addr) (ccd : Value) (cl : List (Str × Addr)) (outer : List Env) (A₀ : Around) (base h₀ : Heap) (L : Addr) (m : Str → Option Value) (s : Shared) (Q E : Value → Shared → Prop),
    Below A₀ base outer h₀ → Fr h₀ L s.heap m → (KF w.params).In h₀ → News h₀ L s.heap own → Top p loose mean mg mb h₀ → cs.kind = .function → dp + n < recursionLimit → un + 8 * n < cLine →
    (∀ r own' h' tk',Fr h₀ L h' m → News h₀ L h' own' → (∀ b o,s.heap.get? b = some o → b ∉ own.map (·.1) → h'.get? b = some o) → (∀ q ∈ own',q.1 ∉ own.map (·.1) → s.heap.get? q.1 = none) → Post r own' →
      Q r { s with heap:=h',toks:=tk' }) →
    wpAny (model PR w) (ktrTop dp un gd cn cs L a ccd cl outer) (call (.ref f) vs) Q E s
theorem sat_of {w : World} {f : Addr} {n : Nat} {vs : List Value} {own : Led} {Post : Value → Led → Prop} {name qual : Str} {params : Arguments} {body : List Stmt} {scope : Scope} {dV kV doc pm cdv ct oc : Value} {an od : Option Addr} {osl : Array (Option Value)} {binds : List (Str × Value)}
    (ho : (KF w.params).lookup f = some ⟨oc,od,.func (fnOf name qual params body scope dV kV doc pm an cdv ct),osl⟩) (hcd : codeIn (KF w.params) cdv qual = true) (hn : 1 ≤ n)
    (hbind : ∀ s : Shared,(KF w.params).In s.heap → BindsTo s (fnOf name qual params body scope dV kV doc pm an cdv ct) ⟨vs,[]⟩ binds) (hloc : ∀ y ∈ binds,scope.names.lookup y.1 = some .local)
    (h : ∀ (p : Program) (loose : List Str) (mean : ExcName → Option Value) (mg mb : Str → Option Value) (dp un : Nat) (gd : Option (List Code)) (cn : Str) (cs : Scope) (a : Addr) (ccd : Value) (cl : List (Str × Addr)) (outer : List Env) (base g : Heap) (L L' : Addr) (h₁ : Heap) (s : Shared),
      Fr g L' h₁ (fun y=>binds.reverse.lookup y) → News g L' h₁ own → Below (ktrTop dp un gd cn cs L a ccd cl outer) base (envX cn cs L a ccd cl :: outer) g → (KF w.params).In g → Top p loose mean mg mb g → dp + n < recursionLimit → un + 8 * n < cLine →
      wpAny (model PR w) ((ktrTop dp un gd cn cs L a ccd cl outer).deeper (envOf qual scope L' f cdv)) (execs body (envOf qual scope L' f cdv))
        (fun fl s'=>Done g s Post (match fl with | .ret v=>v | _=>.none) s') (fun _ _=>False) { s with heap:=h₁,toks:=s.toks + binds.length })
    (hcell : ∀ x ∈ scope.names,x.2 ≠ .cell) (hco : scope.isCoroutine = false) (hgen : scope.isGenerator = false) (hk : scope.kind = .function) : Sat w f n vs own Post:=by
  intro p loose mean mg mb dp un gd cn cs a ccd cl outer A₀ base h₀ L m s Q E B F X N T hck hd hu ret
  refine wpAny_call ?_
  obtain ⟨FG,BG,st,_⟩:=groundX (A:=ktrTop dp un gd cn cs L a ccd cl outer) (R:=fun _ _=>True) B F N rfl rfl hck
  refine codeAny_call_def (fd:=fnOf name qual params body scope dV kV doc pm an cdv ct) (body:=body) (binds:=binds) (by show dp < recursionLimit;omega) ((X.keeps F.keep) _ _ ho) rfl (T.nolimit.keeps F.keep) (codeRec_of (X.keeps F.keep) hcd) rfl (hbind s (X.keeps F.keep)) hcell hloc (fun h₁ hns hk₁=>?_) hco hgen hk
  refine wpAny_mono (h p loose mean mg mb dp un gd cn cs a ccd cl outer base _ L s.heap.objs.size h₁ s ⟨hns,fun b o e=>hk₁ b o (of_hideAll _ e),Nat.le_of_eq (hideAll_size _ _)⟩
    (fun q hq=>⟨hk₁ _ _ (N q hq).1,Nat.ne_of_lt (Heap.lt_size (N q hq).1),hideAll_none _ (List.mem_map_of_mem hq)⟩) BG (X.keeps st) (T.keeps st) hd hu) (fun fl s' hl=>?_) fun _ _ y=>y.elim
  obtain ⟨L',m',own',h',tk',rfl,F',N',hP⟩:=hl
  obtain ⟨oL,es,ep,hL,hLd,hLk,hLf⟩:=FG.ns
  refine ret _ own' h' tk' ⟨⟨oL,es,ep,F'.keep L oL hL,hLd,hLk,hLf⟩,fun b o e=>F'.keep b o (st b o e),F.above⟩ (fun q hq=>⟨(N' q hq).1,fun z=>?_,?_⟩) (fun b o e nb=>F'.keep b o (hideAll_get _ e nb)) (fun q hq nb=>?_) hP
  · have:=(N' q hq).2.2;rw [z,hL] at this;cases this
  · cases z : h₀.get? q.1 with
    | none=>rfl
    | some o=>have:=(N' q hq).2.2;rw [st _ _ z] at this;cases this
  · cases z : s.heap.get? q.1 with
    | none=>rfl
    | some o=>have:=(N' q hq).2.2;rw [hideAll_get _ z nb] at this;cases this
set_option maxHeartbeats 2000000
theorem warm_BA (w : World) (h : Heap) : (KF w.params).In h → PySem.Challenge.rw_sf0023_01.prog = PySem.Challenge.rw_sf0023_01.prog:=by k_fill;intro _;rfl
local macro_rules | `(tactic| k_in)=>`(tactic| with_reducible assumption)
structure OwnA (w : World) (C : Addr) (at_ : Str) : Prop where
  g : plainGet (KF w.params) C at_ = true
  d : hasDictIn (KF w.params) C = true
  f : ∃ att,findIn (KF w.params) (.ref C) at_ = some att ∧ noGet (KF w.params) att = true
structure MethA (w : World) (C : Addr) (me : Str) (f : Addr) : Prop where
  mg : plainGet (KF w.params) C me = true
  mf : findIn (KF w.params) (.ref C) me = some (some (.ref f))
  mi : isFn (KF w.params) (.ref f) = true
  mk' : keepIn (KF w.params) (.ref f) = true
abbrev mcSem (o : PySem.Expr) (me : Str) (pl : Sem Bool) (p2 p3 : Pos) (args : List PySem.Expr) (env : Env) : Sem Value:=do
  let ov ← eval o env
  standAt p2.atName
  let (f,first) ← holding [ov] (getMethod ov me pl)
  callWith p3 f first (backTo p3 (starEach args env)) []
section
variable {w : World} {A : Around} {E : Value → Shared → Prop} {s : Shared} {h₀ : Heap} {L a r d C : Addr} {m : Str → Option Value} {cn : Str} {cs : Scope} {ccd : Value} {cl : List (Str × Addr)} {x at_ : Str} {xp p1 p2 p3 p4 : Pos} {v : Value} {Q : Value → Shared → Prop} {es : List DictEntry} {n : Nat} {news : Led}
theorem at_own (O : OwnA w C at_) (F : Fr h₀ L s.heap m) (X : (KF w.params).In h₀) (N : News h₀ L s.heap news) (hm : m x = some (.ref r)) (m1 : (r,instObj C d) ∈ news) (m2 : (d,dictOf es n) ∈ news) (hl : getL at_ es = some (some v)) (hv : handedIn v = true) (h : Q v { s with toks:=s.toks + 1 })
    (hk : cs.kind = .function:=by rfl) (hx : (envX cn cs L a ccd cl).kindOf x = some .local:=by rfl) (hd : (x == Str.ofString "__debug__") = false:=by decide) : wpAny (model PR w) A (eval (.Attribute (.Name x xp) at_ p1) (envX cn cs L a ccd cl)) Q E s:=by
  obtain ⟨g,d,att,f,ng⟩:=O
  exact Attribute_Name_ (nameX_L F hm (get_own F X (InstAt.of_news N m1 m2) g d f ng hl hv h) hk hx hd)
variable {c dc C2 f : Addr} {es2 : List DictEntry} {n2 : Nat} {me lit : Str} {k : Nat} {pl : Sem Bool}
theorem call_at0 (O : OwnA w C at_) (M : MethA w C2 me f) (F : Fr h₀ L s.heap m) (X : (KF w.params).In h₀) (N : News h₀ L s.heap news) (hm : m x = some (.ref r)) (m1 : (r,instObj C d) ∈ news) (m2 : (d,dictOf es n) ∈ news) (hl : getL at_ es = some (some (.ref c))) (m3 : (c,instObj C2 dc) ∈ news) (m4 : (dc,dictOf es2 n2) ∈ news) (hl2 : getL me es2 = some none)
    (h : wpAny (model PR w) A (call (.ref f) [.ref c]) Q E { s with toks:=s.toks + 1 })
    (hk : cs.kind = .function:=by rfl) (hx : (envX cn cs L a ccd cl).kindOf x = some .local:=by rfl) (hd : (x == Str.ofString "__debug__") = false:=by decide) (he : eval (.Call (.Attribute (.Attribute (.Name x xp) at_ p1) me p2) [] [] p3) (envX cn cs L a ccd cl) = mcSem (.Attribute (.Name x xp) at_ p1) me pl p2 p3 [] (envX cn cs L a ccd cl):=by rfl) : wpAny (model PR w) A (eval (.Call (.Attribute (.Attribute (.Name x xp) at_ p1) me p2) [] [] p3) (envX cn cs L a ccd cl)) Q E s :=
  MethodCall_ (at_own O F X N hm m1 m2 hl rfl (method_inst F X (InstAt.of_news N m3 m4) M.mg M.mf M.mi hl2 (callWith_K0 (X.keeps F.keep) M.mk' h)) hk hx hd) he
theorem call_at1 (O : OwnA w C at_) (M : MethA w C2 me f) (F : Fr h₀ L s.heap m) (X : (KF w.params).In h₀) (N : News h₀ L s.heap news) (hm : m x = some (.ref r)) (m1 : (r,instObj C d) ∈ news) (m2 : (d,dictOf es n) ∈ news) (hl : getL at_ es = some (some (.ref c))) (m3 : (c,instObj C2 dc) ∈ news) (m4 : (dc,dictOf es2 n2) ∈ news) (hl2 : getL me es2 = some none)
    (h : wpAny (model PR w) A (call (.ref f) [.ref c,.str lit (s.toks + 1)]) Q E { s with toks:=s.toks + 1 + 1 })
    (hk : cs.kind = .function:=by rfl) (hx : (envX cn cs L a ccd cl).kindOf x = some .local:=by rfl) (hd : (x == Str.ofString "__debug__") = false:=by decide) (he : eval (.Call (.Attribute (.Attribute (.Name x xp) at_ p1) me p2) [.Constant (.str lit) k p4] [] p3) (envX cn cs L a ccd cl) = mcSem (.Attribute (.Name x xp) at_ p1) me pl p2 p3 [.Constant (.str lit) k p4] (envX cn cs L a ccd cl):=by rfl) : wpAny (model PR w) A (eval (.Call (.Attribute (.Attribute (.Name x xp) at_ p1) me p2) [.Constant (.str lit) k p4] [] p3) (envX cn cs L a ccd cl)) Q E s :=
  MethodCall_ (at_own O F X N hm m1 m2 hl rfl (method_inst F X (InstAt.of_news N m3 m4) M.mg M.mf M.mi hl2 (callWith_K X M.mk' (args_cons (Constant_str (args_nil ⟨X.keeps F.keep,h⟩))))) hk hx hd) he
theorem call_nm0 (M : MethA w C me f) (F : Fr h₀ L s.heap m) (X : (KF w.params).In h₀) (N : News h₀ L s.heap news) (hm : m x = some (.ref r)) (m1 : (r,instObj C d) ∈ news) (m2 : (d,dictOf es n) ∈ news) (hl : getL me es = some none)
    (h : wpAny (model PR w) A (call (.ref f) [.ref r]) Q E s)
    (hk : cs.kind = .function:=by rfl) (hx : (envX cn cs L a ccd cl).kindOf x = some .local:=by rfl) (hd : (x == Str.ofString "__debug__") = false:=by decide) (he : eval (.Call (.Attribute (.Name x xp) me p2) [] [] p3) (envX cn cs L a ccd cl) = mcSem (.Name x xp) me pl p2 p3 [] (envX cn cs L a ccd cl):=by rfl) : wpAny (model PR w) A (eval (.Call (.Attribute (.Name x xp) me p2) [] [] p3) (envX cn cs L a ccd cl)) Q E s :=
  MethodCall_ (nameX_L F hm (method_inst F X (InstAt.of_news N m1 m2) M.mg M.mf M.mi hl (callWith_K0 (X.keeps F.keep) M.mk' h)) hk hx hd) he
theorem call_nm1 (M : MethA w C me f) (F : Fr h₀ L s.heap m) (X : (KF w.params).In h₀) (N : News h₀ L s.heap news) (hm : m x = some (.ref r)) (m1 : (r,instObj C d) ∈ news) (m2 : (d,dictOf es n) ∈ news) (hl : getL me es = some none)
    (h : wpAny (model PR w) A (call (.ref f) [.ref r,.str lit s.toks]) Q E { s with toks:=s.toks + 1 })
    (hk : cs.kind = .function:=by rfl) (hx : (envX cn cs L a ccd cl).kindOf x = some .local:=by rfl) (hd : (x == Str.ofString "__debug__") = false:=by decide) (he : eval (.Call (.Attribute (.Name x xp) me p2) [.Constant (.str lit) k p4] [] p3) (envX cn cs L a ccd cl) = mcSem (.Name x xp) me pl p2 p3 [.Constant (.str lit) k p4] (envX cn cs L a ccd cl):=by rfl) : wpAny (model PR w) A (eval (.Call (.Attribute (.Name x xp) me p2) [.Constant (.str lit) k p4] [] p3) (envX cn cs L a ccd cl)) Q E s :=
  MethodCall_ (nameX_L F hm (method_inst F X (InstAt.of_news N m1 m2) M.mg M.mf M.mi hl (callWith_K X M.mk' (args_cons (Constant_str (args_nil ⟨X.keeps F.keep,h⟩))))) hk hx hd) he
end
section
variable (w : World)
theorem ow1 : OwnA w 879 (Str.ofString "cursor"):=⟨by k_is,by k_is,_,by k_is,by k_is⟩
theorem ow2 : OwnA w 879 (Str.ofString "depth"):=⟨by k_is,by k_is,_,by k_is,by k_is⟩
theorem ow3 : OwnA w 879 (Str.ofString "is_pattern"):=⟨by k_is,by k_is,_,by k_is,by k_is⟩
theorem ow4 : OwnA w 879 (Str.ofString "definitions"):=⟨by k_is,by k_is,_,by k_is,by k_is⟩
theorem ow5 : OwnA w 222 (Str.ofString "at"):=⟨by k_is,by k_is,_,by k_is,by k_is⟩
theorem ow6 : OwnA w 222 (Str.ofString "text"):=⟨by k_is,by k_is,_,by k_is,by k_is⟩
theorem mw1 : MethA w 222 (Str.ofString "is_done") 119:=⟨by k_is,by k_is,by k_is,by k_is⟩
theorem mw2 : MethA w 222 (Str.ofString "peek") 127:=⟨by k_is,by k_is,by k_is,by k_is⟩
theorem mw3 : MethA w 222 (Str.ofString "starts") 134:=⟨by k_is,by k_is,by k_is,by k_is⟩
theorem mw4 : MethA w 222 (Str.ofString "take") 141:=⟨by k_is,by k_is,by k_is,by k_is⟩
theorem mw5 : MethA w 222 (Str.ofString "skip") 148:=⟨by k_is,by k_is,by k_is,by k_is⟩
theorem mw6 : MethA w 222 (Str.ofString "name") 177:=⟨by k_is,by k_is,by k_is,by k_is⟩
theorem mw7 : MethA w 222 (Str.ofString "quoted") 219:=⟨by k_is,by k_is,by k_is,by k_is⟩
theorem mw8 : MethA w 879 (Str.ofString "is_stop") 787:=⟨by k_is,by k_is,by k_is,by k_is⟩
theorem mw9 : MethA w 879 (Str.ofString "choice") 794:=⟨by k_is,by k_is,by k_is,by k_is⟩
theorem mw10 : MethA w 879 (Str.ofString "branch") 801:=⟨by k_is,by k_is,by k_is,by k_is⟩
theorem mw11 : MethA w 879 (Str.ofString "single") 829:=⟨by k_is,by k_is,by k_is,by k_is⟩
theorem mw12 : MethA w 879 (Str.ofString "is_over") 780:=⟨by k_is,by k_is,by k_is,by k_is⟩
theorem ows : OwnA w 879 (Str.ofString "cursor") ∧ OwnA w 879 (Str.ofString "depth") ∧ OwnA w 879 (Str.ofString "is_pattern") ∧ OwnA w 879 (Str.ofString "definitions") ∧ OwnA w 222 (Str.ofString "at") ∧ OwnA w 222 (Str.ofString "text"):=⟨ow1 w,ow2 w,ow3 w,ow4 w,ow5 w,ow6 w⟩
end
open PySem.Builtin.Str (strSliceIndices)
def sgn (tx : Str) (i : Int) : Str:=if 0 ≤ i ∧ i < (tx.length : Int) then Txt.item tx i else Str.ofString ""
theorem sgn_in {tx : Str} {i : Int} (h0 : 0 ≤ i) (h1 : i < (tx.length : Int)) : sgn tx i = Txt.item tx i:=if_pos ⟨h0,h1⟩
theorem sgn_out {tx : Str} {i : Int} (h : ¬ (0 ≤ i ∧ i < (tx.length : Int))) : sgn tx i = Str.ofString "":=if_neg h
theorem slice1 {tx : Str} {i : Int} (hi : 0 ≤ i) : Txt.slice tx (some i) (some (i + 1)) = sgn tx i:=by
  by_cases h : i < (tx.length : Int)
  · rw [sgn_in hi h]
    have hb : i.toNat < tx.cps.size:=by have : tx.length = tx.cps.size:=rfl;lia
    refine (eq_of_beq (slice_closesL (x:=tx) (j:=i + 1) hi (by lia) (by lia))).trans ?_
    rw [eq_of_beq (item_closes (x:=tx) (i:=i) ⟨hi,h⟩)]
    have e : (i + 1 - i).toNat = 1:=by lia
    rw [e]
    have e2 : (tx.cps.toList.drop i.toNat) = tx.cps.toList[i.toNat]'(by simpa using hb) :: tx.cps.toList.drop (i.toNat + 1):=List.drop_eq_getElem_cons _
    rw [e2]
    simp [hb]
  · rw [sgn_out (by lia)]
    unfold Txt.slice
    have e : strSliceIndices (some i) (some (i + 1)) 1 tx.length = []:=by
      unfold strSliceIndices sliceRange
      simp only [show (1 : Int) > 0 by decide,if_true,show ¬ i < 0 by lia,show ¬ i + 1 < 0 by lia,if_false]
      rw [if_neg (by lia)];rfl
    rw [e]
    split
    · rename_i hh
      simp at hh
      cases tx with | mk c=>show Str.mk c = Str.mk #[];congr 1;exact Array.eq_empty_of_size_eq_zero (by simpa [Str.length] using hh.symm)
    · rfl
def At (tx : Str) (i : Int) (l : List Nat) : Prop:=0 ≤ i ∧ i ≤ (tx.length : Int) ∧ tx.cps.toList.drop i.toNat = l
theorem At.ge {tx : Str} {i : Int} {l : List Nat} (h : At tx i l) : 0 ≤ i:=h.1
theorem At.le {tx : Str} {i : Int} {l : List Nat} (h : At tx i l) : i ≤ (tx.length : Int):=h.2.1
theorem At.len {tx : Str} {i : Int} {l : List Nat} (h : At tx i l) : (tx.length : Int) = i + l.length:=by
  obtain ⟨h0,h1,rfl⟩:=h
  have : tx.length = tx.cps.size:=rfl
  rw [List.length_drop];simp;lia
theorem At.lt {tx : Str} {i : Int} {c : Nat} {l : List Nat} (h : At tx i (c :: l)) : i < (tx.length : Int):=by
  have:=h.len;simp at this;lia
theorem At.sgn {tx : Str} {i : Int} {c : Nat} {l : List Nat} (h : At tx i (c :: l)) : sgn tx i = ⟨#[c]⟩:=by
  rw [sgn_in h.1 h.lt,eq_of_beq (item_closes ⟨h.1,h.lt⟩)]
  have hb : i.toNat < tx.cps.size:=by have : tx.length = tx.cps.size:=rfl;have:=h.lt;have:=h.1;lia
  have e2 : (tx.cps.toList.drop i.toNat) = tx.cps.toList[i.toNat]'(by simpa using hb) :: tx.cps.toList.drop (i.toNat + 1):=List.drop_eq_getElem_cons _
  have:=h.2.2
  rw [e2] at this
  have:=(List.cons.inj this).1
  simp at this
  simp [hb,this]
theorem At.item {tx : Str} {i : Int} {c : Nat} {l : List Nat} (h : At tx i (c :: l)) : Txt.item tx i = ⟨#[c]⟩:=by rw [← sgn_in h.1 h.lt];exact h.sgn
theorem At.sgn_nil {tx : Str} {i : Int} (h : At tx i []) : Mine.sgn tx i = Str.ofString "":=sgn_out (by have:=h.len;simp at this;lia)
theorem At.next {tx : Str} {i : Int} {c : Nat} {l : List Nat} (h : At tx i (c :: l)) : At tx (i + 1) l:=by
  refine ⟨by have:=h.1;lia,by have:=h.lt;lia,?_⟩
  have e : (i + 1).toNat = i.toNat + 1:=by have:=h.1;lia
  rw [e,← List.drop_drop,h.2.2];rfl
theorem At.skip {tx : Str} {l : List Nat} : ∀ {i : Int} (p : List Nat),At tx i (p ++ l) → At tx (i + p.length) l
  | i,[],h=>by simpa using h
  | i,c :: p,h=>by
    have:=At.skip p (At.next h)
    have e : i + ((c :: p).length : Int) = i + 1 + p.length:=by simp;lia
    rw [e];exact this
theorem At.zero (l : List Nat) : At ⟨l.toArray⟩ 0 l:=⟨by lia,by lia,by simp⟩
theorem At.sub {tx : Str} {l : List Nat} {i : Int} (p : List Nat) (h : At tx i (p ++ l)) : Txt.slice tx (some i) (some (i + p.length)) = ⟨p.toArray⟩:=by
  have:=h.len;simp at this
  refine (eq_of_beq (slice_closesL (x:=tx) h.1 (by lia) (by lia))).trans ?_
  rw [h.2.2,show (i + (p.length : Int) - i).toNat = p.length by lia]
  simp
set_option maxHeartbeats 2000000
theorem ne_lt {d a : Addr} {o : Obj} : ∀ {n : Led},AllLt d n → (a,o) ∈ n → @Ne Nat a d
  | [],_,m=>by cases m
  | p :: r,h,m=>by
    rcases List.mem_cons.mp m with e | m
    · exact Nat.ne_of_lt (by have:=h.1;rw [← e] at this;exact this)
    · exact ne_lt h.2 m
theorem lt_lt {d a : Addr} {o : Obj} : ∀ {n : Led},AllLt d n → (a,o) ∈ n → @LT.lt Nat _ a d
  | [],_,m=>by cases m
  | p :: r,h,m=>by
    rcases List.mem_cons.mp m with e | m
    · have:=h.1;rw [← e] at this;exact this
    · exact lt_lt h.2 m
theorem ne_lt2 {d x a : Addr} {o : Obj} {n : Led} (h2 : @LT.lt Nat _ d x) (h : AllLt d n) (m : (a,o) ∈ n) : @Ne Nat a x:=Nat.ne_of_lt (Nat.lt_trans (lt_lt h m) h2)
local macro_rules | `(tactic| k_lt $h:ident)=>`(tactic| (replace $h := allLt_of $h))
local macro_rules | `(tactic| k_ne)=>`(tactic| (refine neN ?_;(try dsimp only);first
  | with_reducible assumption
  | (refine Ne.symm ?_;with_reducible assumption)
  | (refine' ne_lt ?h ?m;(case h=>with_reducible assumption);(case m=>k_mem))
  | (refine Ne.symm ?_;refine' ne_lt ?h ?m;(case h=>with_reducible assumption);(case m=>k_mem))
  | (refine' ne_lt2 ?h2 ?h ?m;(case h2 | h=>with_reducible assumption);(case m=>k_mem))
  | (refine Ne.symm ?_;refine' ne_lt2 ?h2 ?h ?m;(case h2 | h=>with_reducible assumption);(case m=>k_mem))
  | (refine Nat.ne_of_lt ?_;with_reducible assumption)
  | (refine Nat.ne_of_gt ?_;with_reducible assumption)))
local macro_rules
  | `(tactic| walk_at "execs cons")=>`(tactic| (k_here;(try dsimp only);first|((fail_if_success (fail_if_success k_fold));refine genQ fun qD qk qhD=>?_)|(with_reducible refine execs_one fun qk=>?_)|(with_reducible refine execs_st fun qD qk qhD=>?_)))
  | `(tactic| walk_at "execs nil")=>`(tactic| (k_here;with_reducible refine wpAny_execs_nil ?_))
def AllIn : Led → Led → Prop
  | [],_=>True
  | q :: r,n=>q ∈ n ∧ AllIn r n
theorem AllIn.sub : ∀ {o n : Led},AllIn o n → ∀ q ∈ o,q ∈ n
  | [],_,_,_,hq=>by cases hq
  | _ :: _,_,h,q,hq=>by
    rcases List.mem_cons.mp hq with rfl | hq
    · exact h.1
    · exact h.2.sub q hq
section
variable {w : World} {f : Addr} {n : Nat} {vs : List Value} {own news : Led} {p : Program} {loose : List Str} {mean : ExcName → Option Value} {mg mb : Str → Option Value} {dp un : Nat} {gd : Option (List Code)} {cn : Str} {cs : Scope} {a : Addr} {ccd : Value} {cl : List (Str × Addr)} {outer : List Env} {A₀ : Around} {base h₀ : Heap} {L : Addr} {m : Str → Option Value} {s : Shared} {Q E : Value → Shared → Prop}
theorem use_ro {V : Value → Prop} (S : Sat w f n vs own (fun r own'=>V r ∧ own' = own)) (hs : AllIn own news) (B : Below A₀ base outer h₀) (F : Fr h₀ L s.heap m) (X : (KF w.params).In h₀) (N : News h₀ L s.heap news) (T : Top p loose mean mg mb h₀) (hk : cs.kind = .function) (hd : dp + n < recursionLimit) (hu : un + 8 * n < cLine)
    (ret : ∀ r h' tk',Fr h₀ L h' m → News h₀ L h' news → V r → Q r { s with heap:=h',toks:=tk' }) : wpAny (model PR w) (ktrTop dp un gd cn cs L a ccd cl outer) (call (.ref f) vs) Q E s:=by
  refine S p loose mean mg mb dp un gd cn cs a ccd cl outer A₀ base h₀ L m s Q E B F X (fun q hq=>N q (hs.sub q hq)) T hk hd hu fun r own' h' tk' F' N' keep _ hV=>?_
  obtain ⟨hV,rfl⟩:=hV
  refine ret r h' tk' F' (fun q hq=>?_) hV
  by_cases hm : q.1 ∈ own'.map (·.1)
  · obtain ⟨q',hq',e⟩:=List.mem_map.mp hm
    have e1:=(N q hq).1
    have e2:=(N q' (hs.sub q' hq')).1
    rw [e] at e2
    have : q = q':=Prod.ext e.symm (Option.some.inj (e1.symm.trans e2))
    exact N' q (this ▸ hq')
  · exact ⟨keep _ _ (N q hq).1 hm,(N q hq).2⟩
theorem use_bool {b : Bool} (S : Sat w f n vs own (fun r own'=>r = .bool b ∧ own' = own)) (hs : AllIn own news) (B : Below A₀ base outer h₀) (F : Fr h₀ L s.heap m) (X : (KF w.params).In h₀) (N : News h₀ L s.heap news) (T : Top p loose mean mg mb h₀) (hk : cs.kind = .function) (hd : dp + n < recursionLimit) (hu : un + 8 * n < cLine)
    (ret : ∀ h' tk',Fr h₀ L h' m → News h₀ L h' news → Q (.bool b) { s with heap:=h',toks:=tk' }) : wpAny (model PR w) (ktrTop dp un gd cn cs L a ccd cl outer) (call (.ref f) vs) Q E s :=
  use_ro S hs B F X N T hk hd hu fun r h' tk' F' N' e=>e ▸ ret h' tk' F' N'
theorem use_str {x y : Str} (S : Sat w f n vs own (fun r own'=>(∃ t,r = .str x t) ∧ own' = own)) (hs : AllIn own news) (hx : x = y) (B : Below A₀ base outer h₀) (F : Fr h₀ L s.heap m) (X : (KF w.params).In h₀) (N : News h₀ L s.heap news) (T : Top p loose mean mg mb h₀) (hk : cs.kind = .function) (hd : dp + n < recursionLimit) (hu : un + 8 * n < cLine)
    (ret : ∀ t h' tk',Fr h₀ L h' m → News h₀ L h' news → Q (.str y t) { s with heap:=h',toks:=tk' }) : wpAny (model PR w) (ktrTop dp un gd cn cs L a ccd cl outer) (call (.ref f) vs) Q E s :=
  use_ro S hs B F X N T hk hd hu fun r h' tk' F' N' e=>by obtain ⟨t,rfl⟩:=e;subst hx;exact ret t h' tk' F' N'
theorem upd_news {d : Addr} {o o' : Obj} {own : Led} {g : Obj → Led} {h h' : Heap} (U : UpdF d o news g) (N : News h₀ L h news) (ho : (d,o) ∈ own) (hs : ∀ q ∈ own,q ∈ news) (N' : News h₀ L h' ((d,o') :: own.filter (fun q=>q.1 != d))) (keep : ∀ b o,h.get? b = some o → b ∉ own.map (·.1) → h'.get? b = some o) : News h₀ L h' (g o'):=by
  obtain ⟨pre,post,rfl,hg,h1,h2⟩:=U.split
  rw [hg]
  have old : ∀ q ∈ pre ++ (d,o) :: post,q.1 ≠ d → h'.get? q.1 = some q.2 ∧ q.1 ≠ L ∧ h₀.get? q.1 = none:=fun q hq hn=>by
    by_cases hm : q.1 ∈ own.map (·.1)
    · obtain ⟨q',hq',e⟩:=List.mem_map.mp hm
      have e1:=(N q hq).1
      have e2:=(N q' (hs q' hq')).1
      rw [e] at e2
      have z : q = q':=Prod.ext e.symm (Option.some.inj (e1.symm.trans e2))
      exact N' q (List.mem_cons_of_mem _ (List.mem_filter.mpr ⟨z ▸ hq',by simpa using hn⟩))
    · exact ⟨keep _ _ (N q hq).1 hm,(N q hq).2⟩
  intro q hq
  rcases List.mem_append.mp hq with hq | hq
  · exact old q (List.mem_append_left _ hq) (h1 q hq)
  · rcases List.mem_cons.mp hq with rfl | hq
    · exact N' _ (.head _)
    · exact old q (List.mem_append_right _ (.tail _ hq)) (h2 q hq)
end
theorem AllIn.c2 {a b : Addr × Obj} {n : Led} (h1 : a ∈ n) (h2 : b ∈ n) : AllIn [a,b] n:=⟨h1,h2,trivial⟩
theorem done {g : Heap} {s : Shared} {Post : Value → Led → Prop} {v : Value} {L' : Addr} {m' : Str → Option Value} {own' : Led} {h' : Heap} {tk' : Nat} (F : Fr g L' h' m') (N : News g L' h' own') (P : Post v own') : Done g s Post v { s with heap:=h',toks:=tk' }:=⟨_,_,_,_,_,rfl,F,N,P⟩
theorem done_c {g : Heap} {s : Shared} {Post : Value → Led → Prop} {v : Value} {L' : Addr} {m' : Str → Option Value} {news own' : Led} {h' : Heap} {tk' : Nat} (F : Fr g L' h' m') (N : News g L' h' news) (P : Post v own') (hs : AllIn own' news) : Done g s Post v { s with heap:=h',toks:=tk' }:=⟨_,_,_,_,_,rfl,F,(fun q hq=>N q (hs.sub q hq)),P⟩
abbrev curD (hT hA : Int) (a b c d : Tok) (tx : Str) (i : Int) : Obj:=dictOf [⟨hT,.str (Str.ofString "text") a,.str tx b⟩,⟨hA,.str (Str.ofString "at") c,.int i d⟩] 2
abbrev cur (c dc : Addr) (hT hA : Int) (k1 k2 k3 k4 : Tok) (tx : Str) (i : Int) : Led:=[(c,instObj 222 dc),(dc,curD hT hA k1 k2 k3 k4 tx i)]
section
variable {w : World} {f : Addr} {n : Nat} {vs : List Value} {news : Led} {p : Program} {loose : List Str} {mean : ExcName → Option Value} {mg mb : Str → Option Value} {dp un : Nat} {gd : Option (List Code)} {cn : Str} {cs : Scope} {a : Addr} {ccd : Value} {cl : List (Str × Addr)} {outer : List Env} {A₀ : Around} {base h₀ : Heap} {L : Addr} {m : Str → Option Value} {s : Shared} {Q E : Value → Shared → Prop}
  {c dc : Addr} {hT hA : Int} {k1 k2 k3 k4 : Tok} {tx : Str} {i i' : Int} {g : Obj → Led}
theorem use_cur {V : Value → Prop} (S : Sat w f n vs (cur c dc hT hA k1 k2 k3 k4 tx i) (fun r own'=>V r ∧ ∃ t,own' = cur c dc hT hA k1 k2 k3 t tx i')) (hs : AllIn (cur c dc hT hA k1 k2 k3 k4 tx i) news) (U : UpdF dc (curD hT hA k1 k2 k3 k4 tx i) news g) (hne : c ≠ dc) (B : Below A₀ base outer h₀) (F : Fr h₀ L s.heap m) (X : (KF w.params).In h₀) (N : News h₀ L s.heap news) (T : Top p loose mean mg mb h₀) (hk : cs.kind = .function) (hd : dp + n < recursionLimit) (hu : un + 8 * n < cLine)
    (ret : ∀ r t h' tk',Fr h₀ L h' m → News h₀ L h' (g (curD hT hA k1 k2 k3 t tx i')) → V r → Q r { s with heap:=h',toks:=tk' }) : wpAny (model PR w) (ktrTop dp un gd cn cs L a ccd cl outer) (call (.ref f) vs) Q E s:=by
  refine S p loose mean mg mb dp un gd cn cs a ccd cl outer A₀ base h₀ L m s Q E B F X (fun q hq=>N q (hs.sub q hq)) T hk hd hu fun r own' h' tk' F' N' keep _ hV=>?_
  obtain ⟨hV,t,rfl⟩:=hV
  refine ret r t h' tk' F' (upd_news U N (.tail _ (.head _)) hs.sub (fun q hq=>?_) keep) hV
  rcases List.mem_cons.mp hq with rfl | hq
  · exact N' _ (.tail _ (.head _))
  · obtain ⟨hq,hn⟩:=List.mem_filter.mp hq
    rcases List.mem_cons.mp hq with rfl | hq
    · exact N' _ (.head _)
    · rcases List.mem_cons.mp hq with rfl | hq
      · simp at hn
      · cases hq
theorem use_cur_str {x y : Str} (S : Sat w f n vs (cur c dc hT hA k1 k2 k3 k4 tx i) (fun r own'=>(∃ t,r = .str x t) ∧ ∃ t,own' = cur c dc hT hA k1 k2 k3 t tx i')) (hs : AllIn (cur c dc hT hA k1 k2 k3 k4 tx i) news) (U : UpdF dc (curD hT hA k1 k2 k3 k4 tx i) news g) (hne : c ≠ dc) (hx : x = y) (B : Below A₀ base outer h₀) (F : Fr h₀ L s.heap m) (X : (KF w.params).In h₀) (N : News h₀ L s.heap news) (T : Top p loose mean mg mb h₀) (hk : cs.kind = .function) (hd : dp + n < recursionLimit) (hu : un + 8 * n < cLine)
    (ret : ∀ u t h' tk',Fr h₀ L h' m → News h₀ L h' (g (curD hT hA k1 k2 k3 t tx i')) → Q (.str y u) { s with heap:=h',toks:=tk' }) : wpAny (model PR w) (ktrTop dp un gd cn cs L a ccd cl outer) (call (.ref f) vs) Q E s :=
  use_cur S hs U hne B F X N T hk hd hu fun r t h' tk' F' N' e=>by obtain ⟨u,rfl⟩:=e;subst hx;exact ret u t h' tk' F' N'
theorem use_cur_bool {b : Bool} (S : Sat w f n vs (cur c dc hT hA k1 k2 k3 k4 tx i) (fun r own'=>r = .bool b ∧ ∃ t,own' = cur c dc hT hA k1 k2 k3 t tx i')) (hs : AllIn (cur c dc hT hA k1 k2 k3 k4 tx i) news) (U : UpdF dc (curD hT hA k1 k2 k3 k4 tx i) news g) (hne : c ≠ dc) (B : Below A₀ base outer h₀) (F : Fr h₀ L s.heap m) (X : (KF w.params).In h₀) (N : News h₀ L s.heap news) (T : Top p loose mean mg mb h₀) (hk : cs.kind = .function) (hd : dp + n < recursionLimit) (hu : un + 8 * n < cLine)
    (ret : ∀ t h' tk',Fr h₀ L h' m → News h₀ L h' (g (curD hT hA k1 k2 k3 t tx i')) → Q (.bool b) { s with heap:=h',toks:=tk' }) : wpAny (model PR w) (ktrTop dp un gd cn cs L a ccd cl outer) (call (.ref f) vs) Q E s :=
  use_cur S hs U hne B F X N T hk hd hu fun r t h' tk' F' N' e=>e ▸ ret t h' tk' F' N'
end
local macro_rules | `(tactic| k_room)=>`(tactic| ((try simp only [depth_under_make,depth_under_kw,depth_in1,depth_deeper,depth_caller]);(try dsimp only [ktrTop]);lia))
theorem room_d {dp a N k R : Nat} (hd : dp + N < R) (h : a + k ≤ N) : dp + a + k < R:=by lia
theorem room_u {un b N k R : Nat} (hu : un + 8 * N < R) (h : b + 8 * k ≤ 8 * N) : un + b + 8 * k < R:=by lia
theorem room_w {n c j : Nat} (h : j ≤ c) : j + n ≤ n + c:=by lia
theorem room_y {n c j d : Nat} (h : j + d ≤ c) : j + (n + d) ≤ n + c:=by lia
theorem room_x {n c b : Nat} (h : b ≤ 8 * c) : b + 8 * n ≤ 8 * (n + c):=by lia
theorem room_z {n c b d : Nat} (h : b + 8 * d ≤ 8 * c) : b + 8 * (n + d) ≤ 8 * (n + c):=by lia
theorem room_q {n c j : Nat} (h2 : 20 ≤ n) (h : j ≤ 20) : j ≤ n + c:=by lia
theorem room_r {n c b : Nat} (h2 : 20 ≤ n) (h : b ≤ 160) : b ≤ 8 * (n + c):=by lia
theorem room_v {n c j : Nat} (h : j ≤ 8 * c) : j ≤ 8 * (n + c):=by lia
local macro_rules | `(tactic| ktr_room)=>`(tactic| ((refine' room_d ?r1 ?r2);(case r1=>assumption);(case r2=>first | exact Nat.le_of_ble_eq_true rfl | exact room_w (Nat.le_of_ble_eq_true rfl)|exact room_y (Nat.le_of_ble_eq_true rfl)|exact room_q (by assumption) (Nat.le_of_ble_eq_true rfl)|exact Nat.le_trans (Nat.le_of_ble_eq_true rfl) (Nat.le_add_left _ _))))
local macro_rules | `(tactic| ktr_units)=>`(tactic| ((refine' room_u ?r1 ?r2);(case r1=>assumption);(case r2=>first | exact Nat.le_of_ble_eq_true rfl | exact room_x (Nat.le_of_ble_eq_true rfl)|exact room_z (Nat.le_of_ble_eq_true rfl)|exact room_r (by assumption) (Nat.le_of_ble_eq_true rfl)|exact room_v (Nat.le_of_ble_eq_true rfl))))
local macro_rules | `(tactic| tb_rel)=>`(tactic| ((case B | F | X | N | T=>k_asm);(case kk=>first | exact rfl | assumption);(case dd=>first | ktr_room | lia);(case uu=>first | ktr_units | lia)))
theorem item_at {w : World} {A : Around} {E : Value → Shared → Prop} {s : Shared} {value slice : PySem.Expr} {tx : Str} {t u : Tok} {i : Int} {Q : Value → Shared → Prop} {x : Nat} {l : List Nat} (hl : tx.length ≤ 1000) (ha : At tx i (x :: l))
    (h : Q (.str ⟨#[x]⟩ s.toks) { s with toks:=s.toks + 1 })
    (hs : subscripted slice false (.str tx t) (.int i u) = operate [.str tx t,.int i u] (getItem (.str tx t) (.int i u)):=by with_unfolding_all rfl)
    (ht : ∀ r,letTemporaryGo value (.str tx t) r = pure ():=by intro _;with_unfolding_all rfl) :
    wpAny (model PR w) A (subscriptTail value slice (.str tx t) (.int i u)) Q E s:=by
  have h0:=ha.ge;have h1:=ha.lt
  exact item_str (fitsSsize_of (N:=9223372036854775808) (by lia) (by lia) (Int.le_refl _)) (by lia) (by lia) (fun e=>ha.item ▸ h) hs ht
section
variable (w : World) (c dc : Addr) (hT hA : Int) (k1 k2 k3 k4 : Tok) (tx : Str) (i : Int) (hl : tx.length ≤ 1000)
include hl
theorem is_done_sat :
    Sat w 119 1 [.ref c] (cur c dc hT hA k1 k2 k3 k4 tx i) (fun r own'=>r = .bool (decide ((tx.length : Int) ≤ i)) ∧ own' = cur c dc hT hA k1 k2 k3 k4 tx i):=by
  refine' sat_of (binds:=[(Str.ofString "self",.ref c)]) ?ho ?hcd ?hn ?hbind ?hloc ?h ?hcell ?hco ?hgen ?hk
  (case ho=>k_is);(case hcd=>k_is);(case hn=>first | decide | lia);(case hbind=>intro s X;first | exact BindsTo.of_eq rfl | exact binds_K X rfl (by k_is) rfl rfl rfl);(case hloc=>exact locs rfl)
  (case hcell=>decide);(case hco=>rfl);(case hgen=>rfl);(case hk=>rfl)
  intros
  repeat' (first|(k_unfold;(try dsimp only))|(k_here;(with_reducible show wpAny _ _ (eval (PySem.Expr.Attribute (PySem.Expr.Name _ _) _ _) _) _ _ _);k_dflt (refine' no_implicit_lambda% (at_own ?O ?F ?X ?N ?hm ?m1 ?m2 ?hl ?hv ?_);(case F=>k_asm);(case X=>k_in);(case N=>k_asm);(case hm=>exact rfl);(case m1 | m2=>k_mem);(case hl=>exact rfl);(case hv=>k_handed);(case O=>first | exact ow1 _ | exact ow5 _ | exact ow6 _ | exact ow2 _ | exact ow3 _ | exact ow4 _ | exact ⟨by k_is,by k_is,_,by k_is,by k_is⟩)))|walk1|(refine StD.nx (by with_reducible assumption) _ ?_)|(refine StD.rt (by with_reducible assumption) _ _ ?_)|(refine Ups.up (by with_reducible assumption) _ _ ?_;(try dsimp only))|(k_end;wrow_close)|dsimp only|(leave1;try dsimp only))
  all_goals exact done (by assumption) (by assumption) ⟨rfl,rfl⟩
theorem peek0_sat (hi : 0 ≤ i) (hi' : i ≤ 1000) :
    Sat w 127 1 [.ref c] (cur c dc hT hA k1 k2 k3 k4 tx i) (fun r own'=>(∃ t,r = .str (sgn tx i) t) ∧ own' = cur c dc hT hA k1 k2 k3 k4 tx i):=by
  refine' sat_of (binds:=[(Str.ofString "self",.ref c),(Str.ofString "ahead",.int 0 371)]) ?ho ?hcd ?hn ?hbind ?hloc ?h ?hcell ?hco ?hgen ?hk
  (case ho=>k_is);(case hcd=>k_is);(case hn=>first | decide | lia);(case hbind=>intro s X;first | exact BindsTo.of_eq rfl | exact binds_K X rfl (by k_is) rfl rfl rfl);(case hloc=>exact locs rfl)
  (case hcell=>decide);(case hco=>rfl);(case hgen=>rfl);(case hk=>rfl)
  intros
  repeat' (first|(k_unfold;(try dsimp only))|(k_here;(with_reducible show wpAny _ _ (eval (PySem.Expr.Attribute (PySem.Expr.Name _ _) _ _) _) _ _ _);k_dflt (refine' no_implicit_lambda% (at_own ?O ?F ?X ?N ?hm ?m1 ?m2 ?hl ?hv ?_);(case F=>k_asm);(case X=>k_in);(case N=>k_asm);(case hm=>exact rfl);(case m1 | m2=>k_mem);(case hl=>exact rfl);(case hv=>k_handed);(case O=>first | exact ow1 _ | exact ow5 _ | exact ow6 _ | exact ow2 _ | exact ow3 _ | exact ow4 _ | exact ⟨by k_is,by k_is,_,by k_is,by k_is⟩)))|walk1|(refine StD.nx (by with_reducible assumption) _ ?_)|(refine StD.rt (by with_reducible assumption) _ _ ?_)|(refine Ups.up (by with_reducible assumption) _ _ ?_;(try dsimp only))|(k_end;wrow_close)|dsimp only|(leave1;try dsimp only))
  · exact done (by assumption) (by assumption) ⟨⟨_,congrArg (Value.str · _) ((congrArg _ (Int.add_zero i)).trans (sgn_in (by lia) (by lia)).symm)⟩,rfl⟩
  · exact done (by assumption) (by assumption) ⟨⟨_,congrArg (Value.str · _) (sgn_out (by lia)).symm⟩,rfl⟩
theorem starts_sat (x : Str) (u : Tok) (hx : x.length = 1) (hi : 0 ≤ i) (hi' : i ≤ 1000) :
    Sat w 134 1 [.ref c,.str x u] (cur c dc hT hA k1 k2 k3 k4 tx i) (fun r own'=>r = .bool (sgn tx i == x) ∧ own' = cur c dc hT hA k1 k2 k3 k4 tx i):=by
  refine' sat_of (binds:=[(Str.ofString "self",.ref c),(Str.ofString "word",.str x u)]) ?ho ?hcd ?hn ?hbind ?hloc ?h ?hcell ?hco ?hgen ?hk
  (case ho=>k_is);(case hcd=>k_is);(case hn=>first | decide | lia);(case hbind=>intro s X;first | exact BindsTo.of_eq rfl | exact binds_K X rfl (by k_is) rfl rfl rfl);(case hloc=>exact locs rfl)
  (case hcell=>decide);(case hco=>rfl);(case hgen=>rfl);(case hk=>rfl)
  intros
  repeat' (first|(k_unfold;(try dsimp only))|(k_here;(with_reducible show wpAny _ _ (eval (PySem.Expr.Attribute (PySem.Expr.Name _ _) _ _) _) _ _ _);k_dflt (refine' no_implicit_lambda% (at_own ?O ?F ?X ?N ?hm ?m1 ?m2 ?hl ?hv ?_);(case F=>k_asm);(case X=>k_in);(case N=>k_asm);(case hm=>exact rfl);(case m1 | m2=>k_mem);(case hl=>exact rfl);(case hv=>k_handed);(case O=>first | exact ow1 _ | exact ow5 _ | exact ow6 _ | exact ow2 _ | exact ow3 _ | exact ow4 _ | exact ⟨by k_is,by k_is,_,by k_is,by k_is⟩)))|walk1|(refine StD.nx (by with_reducible assumption) _ ?_)|(refine StD.rt (by with_reducible assumption) _ _ ?_)|(refine Ups.up (by with_reducible assumption) _ _ ?_;(try dsimp only))|(k_end;wrow_close)|dsimp only|(leave1;try dsimp only))
  all_goals exact done (by assumption) (by assumption) ⟨congrArg Value.bool (by rw [hx];exact congrArg (· == x) (slice1 hi)),rfl⟩
end
theorem Sat.rw {w : World} {f : Addr} {n : Nat} {vs : List Value} {own : Led} {P P' : Value → Led → Prop} (S : Sat w f n vs own P) (e : ∀ v o,P v o → P' v o) : Sat w f n vs own P':=by
  intro p loose mean mg mb dp un gd cn cs a ccd cl outer A₀ base h₀ L m s Q E B F X N T hk hd hu ret
  exact S p loose mean mg mb dp un gd cn cs a ccd cl outer A₀ base h₀ L m s Q E B F X N T hk hd hu fun r o h' t a1 a2 a3 a4 a5=>ret r o h' t a1 a2 a3 a4 (e _ _ a5)
section
variable (w : World) (c dc : Addr) (hT hA : Int) (k1 k2 k3 k4 : Tok) {tx : Str} {i : Int} (hl : tx.length ≤ 1000) {x : Nat} {l : List Nat} (ha : At tx i (x :: l))
include hl ha
theorem peek_at : Sat w 127 1 [.ref c] (cur c dc hT hA k1 k2 k3 k4 tx i) (fun r own'=>(∃ t,r = .str ⟨#[x]⟩ t) ∧ own' = cur c dc hT hA k1 k2 k3 k4 tx i) :=
  ha.sgn ▸ peek0_sat w c dc hT hA k1 k2 k3 k4 tx i hl ha.ge (by have:=ha.lt;lia)
theorem done_at : Sat w 119 1 [.ref c] (cur c dc hT hA k1 k2 k3 k4 tx i) (fun r own'=>r = .bool false ∧ own' = cur c dc hT hA k1 k2 k3 k4 tx i):=by
  have:=is_done_sat w c dc hT hA k1 k2 k3 k4 tx i hl
  rwa [decide_eq_false (by have:=ha.lt;lia)] at this
theorem starts_at (y : Str) (u : Tok) (b : Bool) (hy : y.length = 1) (hb : (Str.mk #[x] == y) = b) : Sat w 134 1 [.ref c,.str y u] (cur c dc hT hA k1 k2 k3 k4 tx i) (fun r own'=>r = .bool b ∧ own' = cur c dc hT hA k1 k2 k3 k4 tx i):=by
  have:=starts_sat w c dc hT hA k1 k2 k3 k4 tx i hl y u hy ha.ge (by have:=ha.lt;lia)
  rwa [ha.sgn,hb] at this
end
section
variable (w : World) (c dc : Addr) (hT hA : Int) (k1 k2 k3 k4 : Tok) {tx : Str} {i : Int} (hl : tx.length ≤ 1000) (ha : At tx i [])
include hl ha
theorem peek_end : Sat w 127 1 [.ref c] (cur c dc hT hA k1 k2 k3 k4 tx i) (fun r own'=>(∃ t,r = .str (Str.ofString "") t) ∧ own' = cur c dc hT hA k1 k2 k3 k4 tx i) :=
  ha.sgn_nil ▸ peek0_sat w c dc hT hA k1 k2 k3 k4 tx i hl ha.ge (by have:=ha.le;lia)
theorem starts_end (y : Str) (u : Tok) (hy : y.length = 1) : Sat w 134 1 [.ref c,.str y u] (cur c dc hT hA k1 k2 k3 k4 tx i) (fun r own'=>r = .bool false ∧ own' = cur c dc hT hA k1 k2 k3 k4 tx i):=by
  have:=starts_sat w c dc hT hA k1 k2 k3 k4 tx i hl y u hy ha.ge (by have:=ha.le;lia)
  rwa [ha.sgn_nil,show (Str.ofString "" == y) = false from by
    cases y with | mk q=>cases hq : (Str.ofString "" == ⟨q⟩) with
      | false=>rfl
      | true=>rw [← eq_of_beq hq] at hy;cases hy] at this
end
section
variable (w : World) (c dc : Addr) (hT hA : Int) (k1 k2 k3 k4 : Tok) {tx : Str} {i : Int} (hl : tx.length ≤ 1000) {x : Nat} {l : List Nat} (ha : At tx i (x :: l))
include hl ha
theorem take_at (hne : c ≠ dc) :
    Sat w 141 2 [.ref c] (cur c dc hT hA k1 k2 k3 k4 tx i) (fun r own'=>(∃ t,r = .str ⟨#[x]⟩ t) ∧ ∃ t,own' = cur c dc hT hA k1 k2 k3 t tx (i + 1)):=by
  have h0:=ha.ge;have h1:=ha.lt
  refine' sat_of (binds:=[(Str.ofString "self",.ref c)]) ?ho ?hcd ?hn ?hbind ?hloc ?h ?hcell ?hco ?hgen ?hk
  (case ho=>k_is);(case hcd=>k_is);(case hn=>first | decide | lia);(case hbind=>intro s X;first | exact BindsTo.of_eq rfl | exact binds_K X rfl (by k_is) rfl rfl rfl);(case hloc=>exact locs rfl)
  (case hcell=>decide);(case hco=>rfl);(case hgen=>rfl);(case hk=>rfl)
  intros
  repeat' (first|(k_unfold;(try dsimp only))|(k_here;(with_reducible show wpAny _ _ (call (Value.ref 119) _) _ _ _);k_dflt (refine' no_implicit_lambda% (use_bool (done_at _ _ _ _ _ _ _ _ _ ?hl ?ha) ?hs ?B ?F ?X ?N ?T ?kk ?dd ?uu ?_);(case hl | ha=>assumption);tb_rel;(case hs=>first | assumption|(repeat' (first | exact trivial | k_mem | refine no_implicit_lambda% (And.intro ?_ ?_)))));intro qh' qtk' qF' qN';(try k_sweep))|(k_here;(with_reducible show wpAny _ _ (subscriptTail _ _ (Value.str _ _) (Value.int _ _)) _ _ _);(refine no_implicit_lambda% (item_at (by assumption) (by assumption) ?_)))|((with_reducible show wpAny _ _ (eval _ _) _ _ _);first|(k_here;(with_reducible show wpAny _ _ (eval (PySem.Expr.Call (PySem.Expr.Attribute (PySem.Expr.Name _ _) _ _) [] [] _) _) _ _ _);k_dflt (refine' no_implicit_lambda% (call_nm0 ?M ?F ?X ?N ?hm ?m1 ?m2 ?hl ?_);(case F=>k_asm);(case X=>k_in);(case N=>k_asm);(case hm=>exact rfl);(case m1 | m2=>k_mem);(case hl=>exact rfl);(case M=>first | exact mw8 _ | exact mw9 _ | exact mw10 _ | exact mw11 _ | exact mw12 _ | exact mw1 _ | exact mw2 _ | exact mw4 _ | exact mw5 _)))|(k_here;(with_reducible show wpAny _ _ (eval (PySem.Expr.Attribute (PySem.Expr.Name _ _) _ _) _) _ _ _);k_dflt (refine' no_implicit_lambda% (at_own ?O ?F ?X ?N ?hm ?m1 ?m2 ?hl ?hv ?_);(case F=>k_asm);(case X=>k_in);(case N=>k_asm);(case hm=>exact rfl);(case m1 | m2=>k_mem);(case hl=>exact rfl);(case hv=>k_handed);(case O=>first | exact ow1 _ | exact ow5 _ | exact ow6 _ | exact ow2 _ | exact ow3 _ | exact ow4 _ | exact ⟨by k_is,by k_is,_,by k_is,by k_is⟩))))|walk1|(refine StD.nx (by with_reducible assumption) _ ?_)|(refine StD.rt (by with_reducible assumption) _ _ ?_)|(refine Ups.up (by with_reducible assumption) _ _ ?_;(try dsimp only))|(k_end;wrow_close)|dsimp only|(leave1;try dsimp only))
  all_goals exact done (by assumption) (by assumption) ⟨⟨_,rfl⟩,_,rfl⟩
theorem skip_yes (y : Str) (u : Tok) (hy : y = ⟨#[x]⟩) (hne : c ≠ dc) :
    Sat w 148 2 [.ref c,.str y u] (cur c dc hT hA k1 k2 k3 k4 tx i) (fun r own'=>r = .bool true ∧ ∃ t,own' = cur c dc hT hA k1 k2 k3 t tx (i + 1)):=by
  have h0:=ha.ge;have h1:=ha.lt;have hy1 : y.length = 1:=by rw [hy];rfl
  have hy2 : (Str.mk #[x] == y) = true:=by rw [hy];exact beq_self_eq_true _
  refine' sat_of (binds:=[(Str.ofString "self",.ref c),(Str.ofString "word",.str y u)]) ?ho ?hcd ?hn ?hbind ?hloc ?h ?hcell ?hco ?hgen ?hk
  (case ho=>k_is);(case hcd=>k_is);(case hn=>first | decide | lia);(case hbind=>intro s X;first | exact BindsTo.of_eq rfl | exact binds_K X rfl (by k_is) rfl rfl rfl);(case hloc=>exact locs rfl)
  (case hcell=>decide);(case hco=>rfl);(case hgen=>rfl);(case hk=>rfl)
  intros
  repeat' (first|(k_unfold;(try dsimp only))|(k_here;(with_reducible show wpAny _ _ (call (Value.ref 134) _) _ _ _);k_dflt (refine' no_implicit_lambda% (use_bool (starts_at _ _ _ _ _ _ _ _ _ ?hl ?ha _ _ _ ?hy ?hb) ?hs ?B ?F ?X ?N ?T ?kk ?dd ?uu ?_);(case hl | ha=>assumption);(case hy | hb=>first | assumption | rfl);tb_rel;(case hs=>first | assumption|(repeat' (first | exact trivial | k_mem | refine no_implicit_lambda% (And.intro ?_ ?_)))));intro qh' qtk' qF' qN';(try k_sweep))|(k_here;(with_reducible show wpAny _ _ (eval (PySem.Expr.Attribute (PySem.Expr.Name _ _) _ _) _) _ _ _);k_dflt (refine' no_implicit_lambda% (at_own ?O ?F ?X ?N ?hm ?m1 ?m2 ?hl ?hv ?_);(case F=>k_asm);(case X=>k_in);(case N=>k_asm);(case hm=>exact rfl);(case m1 | m2=>k_mem);(case hl=>exact rfl);(case hv=>k_handed);(case O=>first | exact ow1 _ | exact ow5 _ | exact ow6 _ | exact ow2 _ | exact ow3 _ | exact ow4 _ | exact ⟨by k_is,by k_is,_,by k_is,by k_is⟩)))|walk1|(refine StD.nx (by with_reducible assumption) _ ?_)|(refine StD.rt (by with_reducible assumption) _ _ ?_)|(refine Ups.up (by with_reducible assumption) _ _ ?_;(try dsimp only))|(k_end;wrow_close)|dsimp only|(leave1;try dsimp only))
  all_goals exact done (by assumption) (by assumption) ⟨rfl,_,by rw [hy];rfl⟩
theorem skip_no (y : Str) (u : Tok) (hy : y.length = 1) (hy2 : (Str.mk #[x] == y) = false) :
    Sat w 148 2 [.ref c,.str y u] (cur c dc hT hA k1 k2 k3 k4 tx i) (fun r own'=>r = .bool false ∧ own' = cur c dc hT hA k1 k2 k3 k4 tx i):=by
  have h0:=ha.ge;have h1:=ha.lt
  refine' sat_of (binds:=[(Str.ofString "self",.ref c),(Str.ofString "word",.str y u)]) ?ho ?hcd ?hn ?hbind ?hloc ?h ?hcell ?hco ?hgen ?hk
  (case ho=>k_is);(case hcd=>k_is);(case hn=>first | decide | lia);(case hbind=>intro s X;first | exact BindsTo.of_eq rfl | exact binds_K X rfl (by k_is) rfl rfl rfl);(case hloc=>exact locs rfl)
  (case hcell=>decide);(case hco=>rfl);(case hgen=>rfl);(case hk=>rfl)
  intros
  repeat' (first|(k_unfold;(try dsimp only))|(k_here;(with_reducible show wpAny _ _ (call (Value.ref 134) _) _ _ _);k_dflt (refine' no_implicit_lambda% (use_bool (starts_at _ _ _ _ _ _ _ _ _ ?hl ?ha _ _ _ ?hy ?hb) ?hs ?B ?F ?X ?N ?T ?kk ?dd ?uu ?_);(case hl | ha=>assumption);(case hy | hb=>first | assumption | rfl);tb_rel;(case hs=>first | assumption|(repeat' (first | exact trivial | k_mem | refine no_implicit_lambda% (And.intro ?_ ?_)))));intro qh' qtk' qF' qN';(try k_sweep))|walk1|(refine StD.nx (by with_reducible assumption) _ ?_)|(refine StD.rt (by with_reducible assumption) _ _ ?_)|(refine Ups.up (by with_reducible assumption) _ _ ?_;(try dsimp only))|(k_end;wrow_close)|dsimp only|(leave1;try dsimp only))
  all_goals exact done (by assumption) (by assumption) ⟨rfl,rfl⟩
end
theorem skip_end (w : World) (c dc : Addr) (hT hA : Int) (k1 k2 k3 k4 : Tok) {tx : Str} {i : Int} (hl : tx.length ≤ 1000) (ha : At tx i []) (y : Str) (u : Tok) (hy : y.length = 1) :
    Sat w 148 2 [.ref c,.str y u] (cur c dc hT hA k1 k2 k3 k4 tx i) (fun r own'=>r = .bool false ∧ own' = cur c dc hT hA k1 k2 k3 k4 tx i):=by
  have h0:=ha.ge;have h1:=ha.le
  refine' sat_of (binds:=[(Str.ofString "self",.ref c),(Str.ofString "word",.str y u)]) ?ho ?hcd ?hn ?hbind ?hloc ?h ?hcell ?hco ?hgen ?hk
  (case ho=>k_is);(case hcd=>k_is);(case hn=>first | decide | lia);(case hbind=>intro s X;first | exact BindsTo.of_eq rfl | exact binds_K X rfl (by k_is) rfl rfl rfl);(case hloc=>exact locs rfl)
  (case hcell=>decide);(case hco=>rfl);(case hgen=>rfl);(case hk=>rfl)
  intros
  repeat' (first|(k_unfold;(try dsimp only))|(k_here;(with_reducible show wpAny _ _ (call (Value.ref 134) _) _ _ _);k_dflt (refine' no_implicit_lambda% (use_bool (starts_end _ _ _ _ _ _ _ _ _ ?hl ?ha _ _ ?hy) ?hs ?B ?F ?X ?N ?T ?kk ?dd ?uu ?_);(case hl | ha=>assumption);(case hy=>first | assumption | rfl);tb_rel;(case hs=>first | assumption|(repeat' (first | exact trivial | k_mem | refine no_implicit_lambda% (And.intro ?_ ?_)))));intro qh' qtk' qF' qN';(try k_sweep))|walk1|(refine StD.nx (by with_reducible assumption) _ ?_)|(refine StD.rt (by with_reducible assumption) _ _ ?_)|(refine Ups.up (by with_reducible assumption) _ _ ?_;(try dsimp only))|(k_end;wrow_close)|dsimp only|(leave1;try dsimp only))
  all_goals exact done (by assumption) (by assumption) ⟨rfl,rfl⟩
def hdS : List Nat → Str
  | []=>Str.ofString ""
  | x :: _=>⟨#[x]⟩
section
variable (w : World) (c dc : Addr) (hT hA : Int) (k1 k2 k3 k4 : Tok) {tx : Str} {i : Int} (hl : tx.length ≤ 1000) {l : List Nat} (ha : At tx i l)
include hl ha
theorem peek_any : Sat w 127 1 [.ref c] (cur c dc hT hA k1 k2 k3 k4 tx i) (fun r own'=>(∃ t,r = .str (hdS l) t) ∧ own' = cur c dc hT hA k1 k2 k3 k4 tx i):=by
  cases l with
  | nil=>exact peek_end w c dc hT hA k1 k2 k3 k4 hl ha
  | cons x l=>exact peek_at w c dc hT hA k1 k2 k3 k4 hl ha
theorem skip_not (y : Str) (u : Tok) (hy : y.length = 1) (hn : (hdS l == y) = false) :
    Sat w 148 2 [.ref c,.str y u] (cur c dc hT hA k1 k2 k3 k4 tx i) (fun r own'=>r = .bool false ∧ own' = cur c dc hT hA k1 k2 k3 k4 tx i):=by
  cases l with
  | nil=>exact skip_end w c dc hT hA k1 k2 k3 k4 hl ha y u hy
  | cons x l=>exact skip_no w c dc hT hA k1 k2 k3 k4 hl ha y u hy hn
end
section
variable {w : World} {A : Around} {E : Value → Shared → Prop} {s : Shared} {x y : Str} {t u : Tok} {b : Bool} {Q : Value → Shared → Prop}
theorem in_b (e : (Builtin.Str.occurrences x y 0 x.length 1).isEmpty = b) (h : Q (.bool (!b)) s) : wpAny (model PR w) A (compareOp .In (.str y u) (.str x t)) Q E s:=in_str (e ▸ h)
theorem notin_b (e : (Builtin.Str.occurrences x y 0 x.length 1).isEmpty = b) (h : Q (.bool b) s) : wpAny (model PR w) A (compareOp .NotIn (.str y u) (.str x t)) Q E s:=notIn_str (by rw [Bool.not_not];exact e ▸ h)
end
set_option maxHeartbeats 2000000
open PyProof.Rows.LCg
theorem new_chars {w : World} {news : Led} {p : Program} {loose : List Str} {mean : ExcName → Option Value} {mg mb : Str → Option Value} {dp un : Nat} {gd : Option (List Code)} {cn : Str} {cs : Scope} {a : Addr} {ccd : Value} {cl : List (Str × Addr)} {outer : List Env} {A₀ : Around} {base h₀ : Heap} {L : Addr} {m : Str → Option Value} {s : Shared} {Q E : Value → Shared → Prop}
    {v0 : Value} (B : Below A₀ base outer h₀) (F : Fr h₀ L s.heap m) (X : (KF w.params).In h₀) (N : News h₀ L s.heap news) (T : Top p loose mean mg mb h₀) (hk : cs.kind = .function) (hd : dp + 3 < recursionLimit) (hu : un + 8 * 3 < cLine)
    (ret : ∀ (x d : Addr) (h0 : Int) (u0 : Tok) h' tk',Fr h₀ L h' m → News h₀ L h' ((x,instObj 515 d) :: (d,dictOf [⟨h0,.str (Str.ofString "charset") u0,v0⟩] 1) :: news) → AllLt d news → @LT.lt Nat _ d x → Q (.ref x) { s with heap:=h',toks:=tk' }) :
    wpAny (model PR w) (ktrTop dp un gd cn cs L a ccd cl outer) (call (.ref 515) [v0]) Q E s:=by
  obtain ⟨kd,nms,ig,ic,mo⟩:=cs
  obtain rfl : kd = .function:=hk
  repeat' (first|(k_unfold;(try dsimp only))|walk1|(refine StD.nx (by with_reducible assumption) _ ?_)|(refine StD.rt (by with_reducible assumption) _ _ ?_)|(refine Ups.up (by with_reducible assumption) _ _ ?_;(try dsimp only))|(k_end;wrow_close)|(dsimp only;walk1)|(leave1;try dsimp only))
  rename Fr h₀ L _ m=>F9
  rename News h₀ L _ _=>N9
  exact ret _ _ _ _ _ _ F9 N9 (by assumption) (by assumption)
theorem new_cs {w : World} {news : Led} {p : Program} {loose : List Str} {mean : ExcName → Option Value} {mg mb : Str → Option Value} {dp un : Nat} {gd : Option (List Code)} {cn : Str} {cs : Scope} {a : Addr} {ccd : Value} {cl : List (Str × Addr)} {outer : List Env} {A₀ : Around} {base h₀ : Heap} {L : Addr} {m : Str → Option Value} {s : Shared} {Q E : Value → Shared → Prop}
    {v0 : Value} (B : Below A₀ base outer h₀) (F : Fr h₀ L s.heap m) (X : (KF w.params).In h₀) (N : News h₀ L s.heap news) (T : Top p loose mean mg mb h₀) (hk : cs.kind = .function) (hd : dp + 3 < recursionLimit) (hu : un + 8 * 3 < cLine)
    (ret : ∀ (x d : Addr) (h0 : Int) (u0 : Tok) h' tk',Fr h₀ L h' m → News h₀ L h' ((x,instObj 428 d) :: (d,dictOf [⟨h0,.str (Str.ofString "spans") u0,v0⟩] 1) :: news) → AllLt d news → @LT.lt Nat _ d x → Q (.ref x) { s with heap:=h',toks:=tk' }) :
    wpAny (model PR w) (ktrTop dp un gd cn cs L a ccd cl outer) (call (.ref 428) [v0]) Q E s:=by
  obtain ⟨kd,nms,ig,ic,mo⟩:=cs
  obtain rfl : kd = .function:=hk
  repeat' (first|(k_unfold;(try dsimp only))|walk1|(refine StD.nx (by with_reducible assumption) _ ?_)|(refine StD.rt (by with_reducible assumption) _ _ ?_)|(refine Ups.up (by with_reducible assumption) _ _ ?_;(try dsimp only))|(k_end;wrow_close)|(dsimp only;walk1)|(leave1;try dsimp only))
  rename Fr h₀ L _ m=>F9
  rename News h₀ L _ _=>N9
  exact ret _ _ _ _ _ _ F9 N9 (by assumption) (by assumption)
theorem new_star {w : World} {news : Led} {p : Program} {loose : List Str} {mean : ExcName → Option Value} {mg mb : Str → Option Value} {dp un : Nat} {gd : Option (List Code)} {cn : Str} {cs : Scope} {a : Addr} {ccd : Value} {cl : List (Str × Addr)} {outer : List Env} {A₀ : Around} {base h₀ : Heap} {L : Addr} {m : Str → Option Value} {s : Shared} {Q E : Value → Shared → Prop}
    {v0 : Value} (B : Below A₀ base outer h₀) (F : Fr h₀ L s.heap m) (X : (KF w.params).In h₀) (N : News h₀ L s.heap news) (T : Top p loose mean mg mb h₀) (hk : cs.kind = .function) (hd : dp + 3 < recursionLimit) (hu : un + 8 * 3 < cLine)
    (ret : ∀ (x d : Addr) (h0 : Int) (u0 : Tok) h' tk',Fr h₀ L h' m → News h₀ L h' ((x,instObj 617 d) :: (d,dictOf [⟨h0,.str (Str.ofString "body") u0,v0⟩] 1) :: news) → AllLt d news → @LT.lt Nat _ d x → Q (.ref x) { s with heap:=h',toks:=tk' }) :
    wpAny (model PR w) (ktrTop dp un gd cn cs L a ccd cl outer) (call (.ref 617) [v0]) Q E s:=by
  obtain ⟨kd,nms,ig,ic,mo⟩:=cs
  obtain rfl : kd = .function:=hk
  repeat' (first|(k_unfold;(try dsimp only))|walk1|(refine StD.nx (by with_reducible assumption) _ ?_)|(refine StD.rt (by with_reducible assumption) _ _ ?_)|(refine Ups.up (by with_reducible assumption) _ _ ?_;(try dsimp only))|(k_end;wrow_close)|(dsimp only;walk1)|(leave1;try dsimp only))
  rename Fr h₀ L _ m=>F9
  rename News h₀ L _ _=>N9
  exact ret _ _ _ _ _ _ F9 N9 (by assumption) (by assumption)
theorem new_plus {w : World} {news : Led} {p : Program} {loose : List Str} {mean : ExcName → Option Value} {mg mb : Str → Option Value} {dp un : Nat} {gd : Option (List Code)} {cn : Str} {cs : Scope} {a : Addr} {ccd : Value} {cl : List (Str × Addr)} {outer : List Env} {A₀ : Around} {base h₀ : Heap} {L : Addr} {m : Str → Option Value} {s : Shared} {Q E : Value → Shared → Prop}
    {v0 : Value} (B : Below A₀ base outer h₀) (F : Fr h₀ L s.heap m) (X : (KF w.params).In h₀) (N : News h₀ L s.heap news) (T : Top p loose mean mg mb h₀) (hk : cs.kind = .function) (hd : dp + 3 < recursionLimit) (hu : un + 8 * 3 < cLine)
    (ret : ∀ (x d : Addr) (h0 : Int) (u0 : Tok) h' tk',Fr h₀ L h' m → News h₀ L h' ((x,instObj 629 d) :: (d,dictOf [⟨h0,.str (Str.ofString "body") u0,v0⟩] 1) :: news) → AllLt d news → @LT.lt Nat _ d x → Q (.ref x) { s with heap:=h',toks:=tk' }) :
    wpAny (model PR w) (ktrTop dp un gd cn cs L a ccd cl outer) (call (.ref 629) [v0]) Q E s:=by
  obtain ⟨kd,nms,ig,ic,mo⟩:=cs
  obtain rfl : kd = .function:=hk
  repeat' (first|(k_unfold;(try dsimp only))|walk1|(refine StD.nx (by with_reducible assumption) _ ?_)|(refine StD.rt (by with_reducible assumption) _ _ ?_)|(refine Ups.up (by with_reducible assumption) _ _ ?_;(try dsimp only))|(k_end;wrow_close)|(dsimp only;walk1)|(leave1;try dsimp only))
  rename Fr h₀ L _ m=>F9
  rename News h₀ L _ _=>N9
  exact ret _ _ _ _ _ _ F9 N9 (by assumption) (by assumption)
theorem new_opt {w : World} {news : Led} {p : Program} {loose : List Str} {mean : ExcName → Option Value} {mg mb : Str → Option Value} {dp un : Nat} {gd : Option (List Code)} {cn : Str} {cs : Scope} {a : Addr} {ccd : Value} {cl : List (Str × Addr)} {outer : List Env} {A₀ : Around} {base h₀ : Heap} {L : Addr} {m : Str → Option Value} {s : Shared} {Q E : Value → Shared → Prop}
    {v0 : Value} (B : Below A₀ base outer h₀) (F : Fr h₀ L s.heap m) (X : (KF w.params).In h₀) (N : News h₀ L s.heap news) (T : Top p loose mean mg mb h₀) (hk : cs.kind = .function) (hd : dp + 3 < recursionLimit) (hu : un + 8 * 3 < cLine)
    (ret : ∀ (x d : Addr) (h0 : Int) (u0 : Tok) h' tk',Fr h₀ L h' m → News h₀ L h' ((x,instObj 641 d) :: (d,dictOf [⟨h0,.str (Str.ofString "body") u0,v0⟩] 1) :: news) → AllLt d news → @LT.lt Nat _ d x → Q (.ref x) { s with heap:=h',toks:=tk' }) :
    wpAny (model PR w) (ktrTop dp un gd cn cs L a ccd cl outer) (call (.ref 641) [v0]) Q E s:=by
  obtain ⟨kd,nms,ig,ic,mo⟩:=cs
  obtain rfl : kd = .function:=hk
  repeat' (first|(k_unfold;(try dsimp only))|walk1|(refine StD.nx (by with_reducible assumption) _ ?_)|(refine StD.rt (by with_reducible assumption) _ _ ?_)|(refine Ups.up (by with_reducible assumption) _ _ ?_;(try dsimp only))|(k_end;wrow_close)|(dsimp only;walk1)|(leave1;try dsimp only))
  rename Fr h₀ L _ m=>F9
  rename News h₀ L _ _=>N9
  exact ret _ _ _ _ _ _ F9 N9 (by assumption) (by assumption)
theorem new_cat {w : World} {news : Led} {p : Program} {loose : List Str} {mean : ExcName → Option Value} {mg mb : Str → Option Value} {dp un : Nat} {gd : Option (List Code)} {cn : Str} {cs : Scope} {a : Addr} {ccd : Value} {cl : List (Str × Addr)} {outer : List Env} {A₀ : Around} {base h₀ : Heap} {L : Addr} {m : Str → Option Value} {s : Shared} {Q E : Value → Shared → Prop}
    {v0 v1 : Value} (B : Below A₀ base outer h₀) (F : Fr h₀ L s.heap m) (X : (KF w.params).In h₀) (N : News h₀ L s.heap news) (T : Top p loose mean mg mb h₀) (hk : cs.kind = .function) (hd : dp + 3 < recursionLimit) (hu : un + 8 * 3 < cLine)
    (ret : ∀ (x d : Addr) (h0 h1 : Int) (u0 u1 : Tok) h' tk',Fr h₀ L h' m → News h₀ L h' ((x,instObj 560 d) :: (d,dictOf [⟨h0,.str (Str.ofString "left") u0,v0⟩,⟨h1,.str (Str.ofString "right") u1,v1⟩] 2) :: news) → AllLt d news → @LT.lt Nat _ d x → Q (.ref x) { s with heap:=h',toks:=tk' }) :
    wpAny (model PR w) (ktrTop dp un gd cn cs L a ccd cl outer) (call (.ref 560) [v0,v1]) Q E s:=by
  obtain ⟨kd,nms,ig,ic,mo⟩:=cs
  obtain rfl : kd = .function:=hk
  repeat' (first|(k_unfold;(try dsimp only))|walk1|(refine StD.nx (by with_reducible assumption) _ ?_)|(refine StD.rt (by with_reducible assumption) _ _ ?_)|(refine Ups.up (by with_reducible assumption) _ _ ?_;(try dsimp only))|(k_end;wrow_close)|(dsimp only;walk1)|(leave1;try dsimp only))
  rename Fr h₀ L _ m=>F9
  rename News h₀ L _ _=>N9
  exact ret _ _ _ _ _ _ _ _ F9 N9 (by assumption) (by assumption)
theorem new_alt {w : World} {news : Led} {p : Program} {loose : List Str} {mean : ExcName → Option Value} {mg mb : Str → Option Value} {dp un : Nat} {gd : Option (List Code)} {cn : Str} {cs : Scope} {a : Addr} {ccd : Value} {cl : List (Str × Addr)} {outer : List Env} {A₀ : Around} {base h₀ : Heap} {L : Addr} {m : Str → Option Value} {s : Shared} {Q E : Value → Shared → Prop}
    {v0 v1 : Value} (B : Below A₀ base outer h₀) (F : Fr h₀ L s.heap m) (X : (KF w.params).In h₀) (N : News h₀ L s.heap news) (T : Top p loose mean mg mb h₀) (hk : cs.kind = .function) (hd : dp + 3 < recursionLimit) (hu : un + 8 * 3 < cLine)
    (ret : ∀ (x d : Addr) (h0 h1 : Int) (u0 u1 : Tok) h' tk',Fr h₀ L h' m → News h₀ L h' ((x,instObj 572 d) :: (d,dictOf [⟨h0,.str (Str.ofString "left") u0,v0⟩,⟨h1,.str (Str.ofString "right") u1,v1⟩] 2) :: news) → AllLt d news → @LT.lt Nat _ d x → Q (.ref x) { s with heap:=h',toks:=tk' }) :
    wpAny (model PR w) (ktrTop dp un gd cn cs L a ccd cl outer) (call (.ref 572) [v0,v1]) Q E s:=by
  obtain ⟨kd,nms,ig,ic,mo⟩:=cs
  obtain rfl : kd = .function:=hk
  repeat' (first|(k_unfold;(try dsimp only))|walk1|(refine StD.nx (by with_reducible assumption) _ ?_)|(refine StD.rt (by with_reducible assumption) _ _ ?_)|(refine Ups.up (by with_reducible assumption) _ _ ?_;(try dsimp only))|(k_end;wrow_close)|(dsimp only;walk1)|(leave1;try dsimp only))
  rename Fr h₀ L _ m=>F9
  rename News h₀ L _ _=>N9
  exact ret _ _ _ _ _ _ _ _ F9 N9 (by assumption) (by assumption)
theorem new_pat {w : World} {news : Led} {p : Program} {loose : List Str} {mean : ExcName → Option Value} {mg mb : Str → Option Value} {dp un : Nat} {gd : Option (List Code)} {cn : Str} {cs : Scope} {a : Addr} {ccd : Value} {cl : List (Str × Addr)} {outer : List Env} {A₀ : Around} {base h₀ : Heap} {L : Addr} {m : Str → Option Value} {s : Shared} {Q E : Value → Shared → Prop}
    {v0 v1 v2 : Value} (B : Below A₀ base outer h₀) (F : Fr h₀ L s.heap m) (X : (KF w.params).In h₀) (N : News h₀ L s.heap news) (T : Top p loose mean mg mb h₀) (hk : cs.kind = .function) (hd : dp + 3 < recursionLimit) (hu : un + 8 * 3 < cLine)
    (ret : ∀ (x d : Addr) (h0 h1 h2 : Int) (u0 u1 u2 : Tok) h' tk',Fr h₀ L h' m → News h₀ L h' ((x,instObj 734 d) :: (d,dictOf [⟨h0,.str (Str.ofString "body") u0,v0⟩,⟨h1,.str (Str.ofString "begins") u1,v1⟩,⟨h2,.str (Str.ofString "trail") u2,v2⟩] 3) :: news) → AllLt d news → @LT.lt Nat _ d x → Q (.ref x) { s with heap:=h',toks:=tk' }) :
    wpAny (model PR w) (ktrTop dp un gd cn cs L a ccd cl outer) (call (.ref 734) [v0,v1,v2]) Q E s:=by
  obtain ⟨kd,nms,ig,ic,mo⟩:=cs
  obtain rfl : kd = .function:=hk
  repeat' (first|(k_unfold;(try dsimp only))|walk1|(refine StD.nx (by with_reducible assumption) _ ?_)|(refine StD.rt (by with_reducible assumption) _ _ ?_)|(refine Ups.up (by with_reducible assumption) _ _ ?_;(try dsimp only))|(k_end;wrow_close)|(dsimp only;walk1)|(leave1;try dsimp only))
  rename Fr h₀ L _ m=>F9
  rename News h₀ L _ _=>N9
  exact ret _ _ _ _ _ _ _ _ _ _ F9 N9 (by assumption) (by assumption)
set_option maxHeartbeats 2000000
def Off (tl : Led) (d : Addr) : Prop:=∀ p ∈ tl,p.1 ≠ d
theorem sub_tail1 {tl n : Led} {q : Addr × Obj} (h : ∀ p ∈ tl,p ∈ n) : ∀ p ∈ tl,p ∈ q :: n:=fun p hp=>.tail _ (h p hp)
local macro_rules | `(tactic| lcg_sub)=>`(tactic| (intro p hp;(repeat (first | exact hp | exact List.mem_append_left _ hp | refine List.mem_append_right _ ?_ | refine List.mem_cons_of_mem _ ?_));done))
theorem done_s {g : Heap} {s : Shared} {Post : Value → Led → Prop} {v : Value} {L' : Addr} {m' : Str → Option Value} {news own' : Led} {h' : Heap} {tk' : Nat} (F : Fr g L' h' m') (N : News g L' h' news) (hs : ∀ q ∈ own',q ∈ news) (P : Post v own') : Done g s Post v { s with heap:=h',toks:=tk' }:=⟨_,_,_,_,_,rfl,F,(fun q hq=>N q (hs q hq)),P⟩
theorem Off.cons {q : Addr × Obj} {tl : Led} {d : Addr} (h : @Ne Nat q.1 d) (o : Off tl d) : Off (q :: tl) d:=fun p hp=>by
  rcases List.mem_cons.mp hp with rfl | hp
  · exact h
  · exact o p hp
theorem off_nil {d : Addr} : Off [] d:=fun _ h=>by cases h
def AllOff : Led → Led → Prop
  | [],_=>True
  | q :: r,tl=>Off tl q.1 ∧ AllOff r tl
theorem allOff_of {tl : Led} : ∀ {n : Led},(∀ p ∈ n,∀ q ∈ tl,q.1 ≠ p.1) → AllOff n tl
  | [],_=>trivial
  | p :: _,h=>⟨h p (.head _),allOff_of fun p' hp=>h p' (.tail _ hp)⟩
theorem AllOff.mem {tl : Led} : ∀ {n : Led},AllOff n tl → ∀ p ∈ n,∀ q ∈ tl,q.1 ≠ p.1
  | [],_,_,h=>by cases h
  | _ :: _,h,p,hp=>by
    rcases List.mem_cons.mp hp with rfl | hp
    · exact h.1
    · exact AllOff.mem h.2 p hp
theorem allOff_app {a b tl : Led} : AllOff (a ++ b) tl ↔ AllOff a tl ∧ AllOff b tl:=by
  induction a with
  | nil=>simp [AllOff]
  | cons q a ih=>simp only [List.cons_append,AllOff,ih,and_assoc]
theorem allLt_app {d : Addr} {a b : Led} : AllLt d (a ++ b) ↔ AllLt d a ∧ AllLt d b:=by
  induction a with
  | nil=>simp [AllLt]
  | cons q a ih=>simp only [List.cons_append,AllLt,ih,and_assoc]
theorem allLt_mem {d : Addr} : ∀ {n : Led},AllLt d n → ∀ p ∈ n,@LT.lt Nat _ p.1 d
  | [],_,_,h=>by cases h
  | _ :: _,h,p,hp=>by
    rcases List.mem_cons.mp hp with rfl | hp
    · exact h.1
    · exact allLt_mem h.2 p hp
theorem AllOff.nil' {n : Led} : AllOff n []:=allOff_of fun _ _ _ h=>by cases h
theorem AllOff.lt {n tl : Led} {d : Addr} {o : Obj} (h : AllLt d n) (o' : AllOff n tl) : AllOff n ((d,o) :: tl):=allOff_of fun p hp q hq=>by
  rcases List.mem_cons.mp hq with rfl | hq
  · exact Nat.ne_of_gt (allLt_mem h p hp)
  · exact o'.mem p hp q hq
theorem AllOff.app {n a b : Led} (x : AllOff n a) (y : AllOff n b) : AllOff n (a ++ b):=allOff_of fun p hp q hq=>by
  rcases List.mem_append.mp hq with hq | hq
  · exact x.mem p hp q hq
  · exact y.mem p hp q hq
theorem Off.app {a b : Led} {d : Addr} (x : Off a d) (y : Off b d) : Off (a ++ b) d:=fun q hq=>by
  rcases List.mem_append.mp hq with hq | hq
  · exact x q hq
  · exact y q hq
theorem off_app {a b : Led} {d : Addr} (x : ∀ p ∈ a,p.1 ≠ d) (y : ∀ p ∈ b,p.1 ≠ d) : ∀ p ∈ a ++ b,p.1 ≠ d:=Off.app x y
local macro_rules | `(tactic| k_all)=>`(tactic| (refine' off_app ?a ?b;(case a=>k_all);(case b=>k_all)))
section
variable {w : World} {f : Addr} {n : Nat} {vs : List Value} {own news : Led} {p : Program} {loose : List Str} {mean : ExcName → Option Value} {mg mb : Str → Option Value} {dp un : Nat} {gd : Option (List Code)} {cn : Str} {cs : Scope} {a : Addr} {ccd : Value} {cl : List (Str × Addr)} {outer : List Env} {A₀ : Around} {base h₀ : Heap} {L : Addr} {m : Str → Option Value} {s : Shared} {Q E : Value → Shared → Prop}
theorem use_new {V : Led → Value → Prop} (S : Sat w f n vs [] (fun r own'=>V own' r)) (B : Below A₀ base outer h₀) (F : Fr h₀ L s.heap m) (X : (KF w.params).In h₀) (N : News h₀ L s.heap news) (T : Top p loose mean mg mb h₀) (hk : cs.kind = .function) (hd : dp + n < recursionLimit) (hu : un + 8 * n < cLine)
    (ret : ∀ r tl h' tk',Fr h₀ L h' m → News h₀ L h' (news ++ tl) → V tl r → AllOff news tl → Q r { s with heap:=h',toks:=tk' }) : wpAny (model PR w) (ktrTop dp un gd cn cs L a ccd cl outer) (call (.ref f) vs) Q E s:=by
  refine S p loose mean mg mb dp un gd cn cs a ccd cl outer A₀ base h₀ L m s Q E B F X (fun q hq=>by cases hq) T hk hd hu fun r own' h' tk' F' N' keep fresh hV=>?_
  refine ret r own' h' tk' F' (fun q hq=>?_) hV (allOff_of fun p hp q hq e=>?_)
  · rcases List.mem_append.mp hq with hq | hq
    · exact ⟨keep _ _ (N q hq).1 (by simp),(N q hq).2⟩
    · exact N' q hq
  · have:=fresh q hq (by simp)
    rw [e,(N p hp).1] at this;cases this
end
def RO (own : Led) (V : Led → Value → Prop) : Value → Led → Prop:=fun r own'=>∃ tl,own' = own ++ tl ∧ V tl r ∧ AllOff own tl
section
variable {w : World} {f : Addr} {n : Nat} {vs : List Value} {own news : Led} {p : Program} {loose : List Str} {mean : ExcName → Option Value} {mg mb : Str → Option Value} {dp un : Nat} {gd : Option (List Code)} {cn : Str} {cs : Scope} {a : Addr} {ccd : Value} {cl : List (Str × Addr)} {outer : List Env} {A₀ : Around} {base h₀ : Heap} {L : Addr} {m : Str → Option Value} {s : Shared} {Q E : Value → Shared → Prop}
theorem use_ron {V : Led → Value → Prop} (S : Sat w f n vs own (RO own V)) (hs : ∀ q ∈ own,q ∈ news) (B : Below A₀ base outer h₀) (F : Fr h₀ L s.heap m) (X : (KF w.params).In h₀) (N : News h₀ L s.heap news) (T : Top p loose mean mg mb h₀) (hk : cs.kind = .function) (hd : dp + n < recursionLimit) (hu : un + 8 * n < cLine)
    (ret : ∀ r tl h' tk',Fr h₀ L h' m → News h₀ L h' (news ++ tl) → V tl r → AllOff news tl → Q r { s with heap:=h',toks:=tk' }) : wpAny (model PR w) (ktrTop dp un gd cn cs L a ccd cl outer) (call (.ref f) vs) Q E s:=by
  refine S p loose mean mg mb dp un gd cn cs a ccd cl outer A₀ base h₀ L m s Q E B F X (fun q hq=>N q (hs q hq)) T hk hd hu fun r own' h' tk' F' N' keep fresh hV=>?_
  obtain ⟨tl,rfl,hV,hX⟩:=hV
  refine ret r tl h' tk' F' (fun q hq=>?_) hV (allOff_of fun p hp q hq e=>?_)
  · rcases List.mem_append.mp hq with hq | hq
    · by_cases hm : q.1 ∈ own.map (·.1)
      · obtain ⟨q',hq',e⟩:=List.mem_map.mp hm
        have x1:=(N q hq).1
        have x2:=(N q' (hs q' hq')).1
        rw [e] at x2
        have : q = q':=Prod.ext e.symm (Option.some.inj (x1.symm.trans x2))
        exact this ▸ N' q' (List.mem_append_left _ hq')
      · exact ⟨keep _ _ (N q hq).1 hm,(N q hq).2⟩
    · exact N' q (List.mem_append_right _ hq)
  · by_cases hm : q.1 ∈ own.map (·.1)
    · obtain ⟨q',hq',e'⟩:=List.mem_map.mp hm
      exact hX.mem q' hq' q hq e'.symm
    · have:=fresh q (List.mem_append_right _ hq) hm
      rw [e,(N p hp).1] at this;cases this
end
theorem fin_ro {own news : Led} {V : Led → Value → Prop} {g h' : Heap} {s : Shared} {L' : Addr} {m' : Str → Option Value} {v : Value} {tk' : Nat}
    (F : Fr g L' h' m') (N : News g L' h' news) (tl : Led) (hs : ∀ q ∈ own ++ tl,q ∈ news) (aO : AllOff own tl) (hV : V tl v) : Done g s (RO own V) v { s with heap:=h',toks:=tk' } :=
  done_s F N hs ⟨tl,rfl,hV,aO⟩
theorem fin_ro2 {own rest : Led} {V : Led → Value → Prop} {g h' : Heap} {s : Shared} {L' x' d' : Addr} {o1 o2 : Obj} {m' : Str → Option Value} {v : Value} {tk' : Nat}
    (F : Fr g L' h' m') (N : News g L' h' ((x',o1) :: (d',o2) :: rest)) (hs : ∀ q ∈ own,q ∈ rest) (hx : AllLt x' own) (hd : AllLt d' own) (hV : V [(x',o1),(d',o2)] v) : Done g s (RO own V) v { s with heap:=h',toks:=tk' } :=
  fin_ro F N [(x',o1),(d',o2)] (fun q hq=>by
    rcases List.mem_append.mp hq with hq | hq
    · exact .tail _ (.tail _ (hs q hq))
    · simp only [List.mem_cons,List.not_mem_nil,or_false] at hq
      rcases hq with rfl | rfl
      · exact .head _
      · exact .tail _ (.head _)) (.lt hx (.lt hd .nil')) hV
theorem off_lt {d : Addr} {n tl : Led} (h : AllLt d n) (hs : ∀ q ∈ tl,q ∈ n) : ∀ p ∈ tl,p.1 ≠ d:=fun p hp=>Nat.ne_of_lt (allLt_mem h p (hs p hp))
theorem off_lt2 {d x : Addr} {n tl : Led} (h2 : @LT.lt Nat _ d x) (h : AllLt d n) (hs : ∀ q ∈ tl,q ∈ n) : ∀ p ∈ tl,p.1 ≠ x:=fun p hp=>Nat.ne_of_lt (Nat.lt_trans (allLt_mem h p (hs p hp)) h2)
theorem off_all {a : Addr} {o : Obj} {n tl : Led} (h : AllOff n tl) (m : (a,o) ∈ n) : ∀ p ∈ tl,p.1 ≠ a:=fun p hp=>h.mem _ m p hp
theorem allOff_sub {n ex tl : Led} (h : AllOff n tl) (hs : ∀ q ∈ ex,q ∈ n) : AllOff ex tl:=allOff_of fun p hp q hq=>h.mem p (hs p hp) q hq
theorem allLt_sub {d : Addr} {n ex : Led} (h : AllLt d n) (hs : ∀ q ∈ ex,q ∈ n) : AllLt d ex:=allLt_of fun p hp=>allLt_mem h p (hs p hp)
theorem allLt_sub2 {d x : Addr} {n ex : Led} (h2 : @LT.lt Nat _ d x) (h : AllLt d n) (hs : ∀ q ∈ ex,q ∈ n) : AllLt x ex:=allLt_of fun p hp=>Nat.lt_trans (allLt_mem h p (hs p hp)) h2
local macro_rules | `(tactic| k_all)=>`(tactic| first
  | with_reducible assumption
  | (show Off _ _;with_reducible assumption)
  | (refine' off_all ?h ?m;(case h=>with_reducible assumption);(case m=>k_mem))
  | (refine' off_lt ?h ?m;(case h=>with_reducible assumption);(case m=>lcg_sub))
  | (refine' off_lt2 ?h2 ?h ?m;(case h2 | h=>with_reducible assumption);(case m=>lcg_sub)))
local macro_rules | `(tactic| lcg_off)=>`(tactic| first
  | exact True.intro | k_ne | k_all
  | (refine' allLt_sub ?h ?m;(case h=>with_reducible assumption);(case m=>lcg_sub))
  | (refine' allLt_sub2 ?h2 ?h ?m;(case h2 | h=>with_reducible assumption);(case m=>lcg_sub))
  | (refine And.intro ?_ ?_ <;> lcg_off))
theorem allLt_up {d d' : Addr} {n : Led} (h : AllLt d n) (l : @LT.lt Nat _ d d') : AllLt d' n:=allLt_of fun p hp=>Nat.lt_trans (allLt_mem h p hp) l
section
variable {w : World} {f : Addr} {n : Nat} {vs : List Value} {own news : Led} {p : Program} {loose : List Str} {mean : ExcName → Option Value} {mg mb : Str → Option Value} {dp un : Nat} {gd : Option (List Code)} {cn : Str} {cs : Scope} {a : Addr} {ccd : Value} {cl : List (Str × Addr)} {outer : List Env} {A₀ : Around} {base h₀ : Heap} {L : Addr} {m : Str → Option Value} {s : Shared} {Q E : Value → Shared → Prop}
theorem use_newR {W : Led → Addr → Prop} (S : Sat w f n vs [] (fun r own'=>∃ b,r = .ref b ∧ W own' b)) (B : Below A₀ base outer h₀) (F : Fr h₀ L s.heap m) (X : (KF w.params).In h₀) (N : News h₀ L s.heap news) (T : Top p loose mean mg mb h₀) (hk : cs.kind = .function) (hd : dp + n < recursionLimit) (hu : un + 8 * n < cLine)
    (ret : ∀ b tl h' tk',Fr h₀ L h' m → News h₀ L h' (news ++ tl) → W tl b → AllOff news tl → Q (.ref b) { s with heap:=h',toks:=tk' }) : wpAny (model PR w) (ktrTop dp un gd cn cs L a ccd cl outer) (call (.ref f) vs) Q E s :=
  use_new S B F X N T hk hd hu fun r tl h' tk' F' N' hV hO=>by obtain ⟨b,rfl,hW⟩:=hV;exact ret b tl h' tk' F' N' hW hO
theorem use_newV {V : Led → Value → Prop} (hV : ∀ tl r,V tl r → ∃ b,r = .ref b) (S : Sat w f n vs [] (fun r own'=>V own' r)) (B : Below A₀ base outer h₀) (F : Fr h₀ L s.heap m) (X : (KF w.params).In h₀) (N : News h₀ L s.heap news) (T : Top p loose mean mg mb h₀) (hk : cs.kind = .function) (hd : dp + n < recursionLimit) (hu : un + 8 * n < cLine)
    (ret : ∀ b tl h' tk',Fr h₀ L h' m → News h₀ L h' (news ++ tl) → V tl (.ref b) → AllOff news tl → Q (.ref b) { s with heap:=h',toks:=tk' }) : wpAny (model PR w) (ktrTop dp un gd cn cs L a ccd cl outer) (call (.ref f) vs) Q E s :=
  use_new S B F X N T hk hd hu fun r tl h' tk' F' N' h hO=>by obtain ⟨b,rfl⟩:=hV tl r h;exact ret b tl h' tk' F' N' h hO
theorem use_ronR {W : Led → Addr → Prop} (S : Sat w f n vs own (RO own (fun tl r=>∃ b,r = .ref b ∧ W tl b))) (hs : ∀ q ∈ own,q ∈ news) (B : Below A₀ base outer h₀) (F : Fr h₀ L s.heap m) (X : (KF w.params).In h₀) (N : News h₀ L s.heap news) (T : Top p loose mean mg mb h₀) (hk : cs.kind = .function) (hd : dp + n < recursionLimit) (hu : un + 8 * n < cLine)
    (ret : ∀ b tl h' tk',Fr h₀ L h' m → News h₀ L h' (news ++ tl) → W tl b → AllOff news tl → Q (.ref b) { s with heap:=h',toks:=tk' }) : wpAny (model PR w) (ktrTop dp un gd cn cs L a ccd cl outer) (call (.ref f) vs) Q E s :=
  use_ron S hs B F X N T hk hd hu fun r tl h' tk' F' N' hV hO=>by obtain ⟨b,rfl,hW⟩:=hV;exact ret b tl h' tk' F' N' hW hO
theorem use_ronV {V : Led → Value → Prop} (hV : ∀ tl r,V tl r → ∃ b,r = .ref b) (S : Sat w f n vs own (RO own V)) (hs : ∀ q ∈ own,q ∈ news) (B : Below A₀ base outer h₀) (F : Fr h₀ L s.heap m) (X : (KF w.params).In h₀) (N : News h₀ L s.heap news) (T : Top p loose mean mg mb h₀) (hk : cs.kind = .function) (hd : dp + n < recursionLimit) (hu : un + 8 * n < cLine)
    (ret : ∀ b tl h' tk',Fr h₀ L h' m → News h₀ L h' (news ++ tl) → V tl (.ref b) → AllOff news tl → Q (.ref b) { s with heap:=h',toks:=tk' }) : wpAny (model PR w) (ktrTop dp un gd cn cs L a ccd cl outer) (call (.ref f) vs) Q E s :=
  use_ron S hs B F X N T hk hd hu fun r tl h' tk' F' N' h hO=>by obtain ⟨b,rfl⟩:=hV tl r h;exact ret b tl h' tk' F' N' h hO
theorem use_ronT {v : Value} (S : Sat w f n vs own (RO own (fun _ r=>r = v))) (hs : ∀ q ∈ own,q ∈ news) (B : Below A₀ base outer h₀) (F : Fr h₀ L s.heap m) (X : (KF w.params).In h₀) (N : News h₀ L s.heap news) (T : Top p loose mean mg mb h₀) (hk : cs.kind = .function) (hd : dp + n < recursionLimit) (hu : un + 8 * n < cLine)
    (ret : ∀ h' tk',Fr h₀ L h' m → News h₀ L h' news → Q v { s with heap:=h',toks:=tk' }) : wpAny (model PR w) (ktrTop dp un gd cn cs L a ccd cl outer) (call (.ref f) vs) Q E s :=
  use_ron S hs B F X N T hk hd hu fun r tl h' tk' F' N' h _=>h ▸ ret h' tk' F' fun q hq=>N' q (List.mem_append_left _ hq)
end
set_option maxHeartbeats 2000000
abbrev occ0 (x y : Str) : Bool:=(Builtin.Str.occurrences x y 0 x.length 1).isEmpty
abbrev NAMES : Str:=Str.ofString "abcdefghijklmnopqrstuvwxyzABCDEFGHIJKLMNOPQRSTUVWXYZ_0123456789"
theorem fig_in {d : Nat} (h0 : 48 ≤ d) (h1 : d ≤ 51) : occ0 NAMES ⟨#[d]⟩ = false:=by
  rcases (show d = 48 ∨ d = 49 ∨ d = 50 ∨ d = 51 by lia) with rfl | rfl | rfl | rfl <;> decide +kernel
section
variable (w : World) (c dc : Addr) (hT hA : Int) (k1 k2 k3 k4 : Tok) {tx : Str} {i : Int} (hl : tx.length ≤ 1000) {d : Nat} {l : List Nat}
include hl
theorem tw_at (u : Tok) (hne : c ≠ dc) (ha : At tx i (68 :: d :: 125 :: l)) (hd0 : 48 ≤ d) (hd1 : d ≤ 51) :
    Sat w 155 1 [.ref c,.str (Str.ofString "abcdefghijklmnopqrstuvwxyzABCDEFGHIJKLMNOPQRSTUVWXYZ_0123456789") u] (cur c dc hT hA k1 k2 k3 k4 tx i) (fun r own'=>(∃ t,r = .str ⟨#[68,d]⟩ t) ∧ ∃ t,own' = cur c dc hT hA k1 k2 k3 t tx (i + 1 + 1)):=by
  have h0:=ha.ge;have h1:=ha.lt
  have ha1:=ha.next;have ha2:=ha1.next;have h2:=ha1.lt;have h3:=ha2.lt;have hin:=fig_in hd0 hd1
  refine' sat_of (binds:=[(Str.ofString "self",.ref c),(Str.ofString "signs",.str (Str.ofString "abcdefghijklmnopqrstuvwxyzABCDEFGHIJKLMNOPQRSTUVWXYZ_0123456789") u)]) ?ho ?hcd ?hn ?hbind ?hloc ?h ?hcell ?hco ?hgen ?hk
  (case ho=>k_is);(case hcd=>k_is);(case hn=>first | decide | lia);(case hbind=>intro s X;first | exact BindsTo.of_eq rfl | exact binds_K X rfl (by k_is) rfl rfl rfl);(case hloc=>exact locs rfl)
  (case hcell=>decide);(case hco=>rfl);(case hgen=>rfl);(case hk=>rfl)
  intros
  repeat' (first|(k_unfold;(try dsimp only))|(k_here;(with_reducible show wpAny _ _ (compareOp CmpOp.In (Value.str _ _) (Value.str _ _)) _ _ _);first | refine no_implicit_lambda% (in_b ‹(Builtin.Str.occurrences _ _ _ _ _).isEmpty = _› ?_)|refine no_implicit_lambda% (in_b (b:=true) (by decide +kernel) ?_)|refine no_implicit_lambda% (in_b (b:=false) (by decide +kernel) ?_))|(k_here;(with_reducible show wpAny _ _ (subscriptTail _ _ (Value.str _ _) (Value.int _ _)) _ _ _);(refine no_implicit_lambda% (item_at (by assumption) (by assumption) ?_)))|(k_here;(with_reducible show wpAny _ _ (eval (PySem.Expr.Attribute (PySem.Expr.Name _ _) _ _) _) _ _ _);k_dflt (refine' no_implicit_lambda% (at_own ?O ?F ?X ?N ?hm ?m1 ?m2 ?hl ?hv ?_);(case F=>k_asm);(case X=>k_in);(case N=>k_asm);(case hm=>exact rfl);(case m1 | m2=>k_mem);(case hl=>exact rfl);(case hv=>k_handed);(case O=>first | exact ow1 _ | exact ow5 _ | exact ow6 _ | exact ow2 _ | exact ow3 _ | exact ow4 _ | exact ⟨by k_is,by k_is,_,by k_is,by k_is⟩)))|walk1|(refine StD.nx (by with_reducible assumption) _ ?_)|(refine StD.rt (by with_reducible assumption) _ _ ?_)|(refine Ups.up (by with_reducible assumption) _ _ ?_;(try dsimp only))|(k_end;wrow_close)|dsimp only|(leave1;try dsimp only))
  all_goals exact done (by assumption) (by assumption) ⟨⟨_,congrArg (Value.str · _) (by rw [Int.add_assoc];exact At.sub [68,d] ha)⟩,_,rfl⟩
end
section
variable (w : World) (c dc : Addr) (hT hA : Int) (k1 k2 k3 k4 : Tok) {tx : Str} {i : Int} (hl : tx.length ≤ 1000) {d : Nat} {l : List Nat}
include hl
theorem name_at (hne : c ≠ dc) (ha : At tx i (68 :: d :: 125 :: l)) (hd0 : 48 ≤ d) (hd1 : d ≤ 51) :
    Sat w 177 3 [.ref c] (cur c dc hT hA k1 k2 k3 k4 tx i) (fun r own'=>(∃ t,r = .str ⟨#[68,d]⟩ t) ∧ ∃ t,own' = cur c dc hT hA k1 k2 k3 t tx (i + 1 + 1)):=by
  have h0:=ha.ge;have h1:=ha.lt
  refine' sat_of (binds:=[(Str.ofString "self",.ref c)]) ?ho ?hcd ?hn ?hbind ?hloc ?h ?hcell ?hco ?hgen ?hk
  (case ho=>k_is);(case hcd=>k_is);(case hn=>first | decide | lia);(case hbind=>intro s X;first | exact BindsTo.of_eq rfl | exact binds_K X rfl (by k_is) rfl rfl rfl);(case hloc=>exact locs rfl)
  (case hcell=>decide);(case hco=>rfl);(case hgen=>rfl);(case hk=>rfl)
  intros
  repeat' (first|(k_unfold;(try dsimp only))|((with_reducible show wpAny _ _ (call _ _) _ _ _);first|(k_here;(with_reducible show wpAny _ _ (call (Value.ref 155) _) _ _ _);k_dflt (refine' no_implicit_lambda% (use_cur_str (tw_at _ _ _ _ _ _ _ _ _ ?hl _ ?hne ?ha ?hd0 ?hd1) ?hs ?U ?hne rfl ?B ?F ?X ?N ?T ?kk ?dd ?uu ?_);(case hl | ha=>assumption);(case hd0=>assumption);(case hd1=>assumption);tb_rel;(case hs=>first | assumption|(repeat' (first | exact trivial | k_mem | refine no_implicit_lambda% (And.intro ?_ ?_))));(case U=>k_updF);(case hne=>first | assumption | lia));intro qt1 qt2 qh' qtk' qF' qN';(have ha':=At.next (At.next ‹At _ _ (_ :: _ :: _)›));(try k_sweep))|(k_here;(with_reducible show wpAny _ _ (call (Value.ref 127) _) _ _ _);k_dflt (refine' no_implicit_lambda% (use_str (peek_at _ _ _ _ _ _ _ _ _ ?hl ?ha) ?hs rfl ?B ?F ?X ?N ?T ?kk ?dd ?uu ?_);(case hl | ha=>assumption);tb_rel;(case hs=>first | assumption|(repeat' (first | exact trivial | k_mem | refine no_implicit_lambda% (And.intro ?_ ?_)))));intro qt qh' qtk' qF' qN';(try k_sweep)))|((with_reducible show wpAny _ _ (compareOp _ _ _) _ _ _);first|(k_here;(with_reducible show wpAny _ _ (compareOp CmpOp.NotIn (Value.str _ _) (Value.str _ _)) _ _ _);first | refine no_implicit_lambda% (notin_b ‹(Builtin.Str.occurrences _ _ _ _ _).isEmpty = _› ?_)|refine no_implicit_lambda% (notin_b (b:=true) (by decide +kernel) ?_)|refine no_implicit_lambda% (notin_b (b:=false) (by decide +kernel) ?_))|(k_here;(with_reducible show wpAny _ _ (compareOp CmpOp.In (Value.str _ _) (Value.str _ _)) _ _ _);first | refine no_implicit_lambda% (in_b ‹(Builtin.Str.occurrences _ _ _ _ _).isEmpty = _› ?_)|refine no_implicit_lambda% (in_b (b:=true) (by decide +kernel) ?_)|refine no_implicit_lambda% (in_b (b:=false) (by decide +kernel) ?_)))|(k_here;(with_reducible show wpAny _ _ (eval (PySem.Expr.Call (PySem.Expr.Attribute (PySem.Expr.Name _ _) _ _) [] [] _) _) _ _ _);k_dflt (refine' no_implicit_lambda% (call_nm0 ?M ?F ?X ?N ?hm ?m1 ?m2 ?hl ?_);(case F=>k_asm);(case X=>k_in);(case N=>k_asm);(case hm=>exact rfl);(case m1 | m2=>k_mem);(case hl=>exact rfl);(case M=>first | exact mw8 _ | exact mw9 _ | exact mw10 _ | exact mw11 _ | exact mw12 _ | exact mw1 _ | exact mw2 _ | exact mw4 _ | exact mw5 _)))|walk1|(refine StD.nx (by with_reducible assumption) _ ?_)|(refine StD.rt (by with_reducible assumption) _ _ ?_)|(refine Ups.up (by with_reducible assumption) _ _ ?_;(try dsimp only))|(k_end;wrow_close)|dsimp only|(leave1;try dsimp only))
  all_goals exact done (by assumption) (by assumption) ⟨⟨_,rfl⟩,_,rfl⟩
theorem quo0_at (u : Tok) (hne : c ≠ dc) (ha : At tx i (34 :: l)) :
    Sat w 219 3 [.ref c, .str (Str.ofString "\"") u] (cur c dc hT hA k1 k2 k3 k4 tx i) (fun r own' => (∃ t, r = .str (Str.ofString "") t) ∧ ∃ t, own' = cur c dc hT hA k1 k2 k3 t tx (i + 1)) := by
  have h0:=ha.ge;have h1:=ha.lt
  refine' sat_of (binds := [(Str.ofString "self", .ref c), (Str.ofString "end", .str (Str.ofString "\"") u)]) ?ho ?hcd ?hn ?hbind ?hloc ?h ?hcell ?hco ?hgen ?hk
  (case ho=>k_is);(case hcd=>k_is);(case hn=>first | decide | lia);(case hbind=>intro s X;first | exact BindsTo.of_eq rfl | exact binds_K X rfl (by k_is) rfl rfl rfl);(case hloc=>exact locs rfl)
  (case hcell=>decide);(case hco=>rfl);(case hgen=>rfl);(case hk=>rfl)
  intros
  repeat' (first|(k_unfold;(try dsimp only))|((with_reducible show wpAny _ _ (call _ _) _ _ _);first|(k_here;(with_reducible show wpAny _ _ (call (Value.ref 141) _) _ _ _);k_dflt (refine' no_implicit_lambda% (use_cur_str (take_at _ _ _ _ _ _ _ _ _ ?hl ?ha ?hne) ?hs ?U ?hne rfl ?B ?F ?X ?N ?T ?kk ?dd ?uu ?_);(case hl | ha=>assumption);tb_rel;(case hs=>first | assumption|(repeat' (first | exact trivial | k_mem | refine no_implicit_lambda% (And.intro ?_ ?_))));(case U=>k_updF);(case hne=>first | assumption | lia));intro qt1 qt2 qh' qtk' qF' qN';(have ha':=At.next ‹At _ _ (_ :: _)›);(try k_sweep))|(k_here;(with_reducible show wpAny _ _ (call (Value.ref 119) _) _ _ _);k_dflt (refine' no_implicit_lambda% (use_bool (done_at _ _ _ _ _ _ _ _ _ ?hl ?ha) ?hs ?B ?F ?X ?N ?T ?kk ?dd ?uu ?_);(case hl | ha=>assumption);tb_rel;(case hs=>first | assumption|(repeat' (first | exact trivial | k_mem | refine no_implicit_lambda% (And.intro ?_ ?_)))));intro qh' qtk' qF' qN';(try k_sweep)))|(k_here;(with_reducible show wpAny _ _ (eval (PySem.Expr.Call (PySem.Expr.Attribute (PySem.Expr.Name _ _) _ _) [] [] _) _) _ _ _);k_dflt (refine' no_implicit_lambda% (call_nm0 ?M ?F ?X ?N ?hm ?m1 ?m2 ?hl ?_);(case F=>k_asm);(case X=>k_in);(case N=>k_asm);(case hm=>exact rfl);(case m1 | m2=>k_mem);(case hl=>exact rfl);(case M=>first | exact mw8 _ | exact mw9 _ | exact mw10 _ | exact mw11 _ | exact mw12 _ | exact mw1 _ | exact mw2 _ | exact mw4 _ | exact mw5 _)))|walk1|(refine StD.nx (by with_reducible assumption) _ ?_)|(refine StD.rt (by with_reducible assumption) _ _ ?_)|(refine Ups.up (by with_reducible assumption) _ _ ?_;(try dsimp only))|(k_end;wrow_close)|dsimp only|(leave1;try dsimp only))
  all_goals exact done_c (by assumption) (by assumption) ⟨⟨_,congrArg (Value.str · _) (by decide +kernel)⟩,_,rfl⟩ (AllIn.c2 (by k_mem) (by k_mem))
theorem quo2_at (u : Tok) (hne : c ≠ dc) (ha : At tx i (97 :: 98 :: 34 :: l)) :
    Sat w 219 3 [.ref c, .str (Str.ofString "\"") u] (cur c dc hT hA k1 k2 k3 k4 tx i) (fun r own' => (∃ t, r = .str (Str.ofString "ab") t) ∧ ∃ t, own' = cur c dc hT hA k1 k2 k3 t tx (i + 1 + 1 + 1)) := by
  have h0:=ha.ge;have h1:=ha.lt
  refine' sat_of (binds := [(Str.ofString "self", .ref c), (Str.ofString "end", .str (Str.ofString "\"") u)]) ?ho ?hcd ?hn ?hbind ?hloc ?h ?hcell ?hco ?hgen ?hk
  (case ho=>k_is);(case hcd=>k_is);(case hn=>first | decide | lia);(case hbind=>intro s X;first | exact BindsTo.of_eq rfl | exact binds_K X rfl (by k_is) rfl rfl rfl);(case hloc=>exact locs rfl)
  (case hcell=>decide);(case hco=>rfl);(case hgen=>rfl);(case hk=>rfl)
  intros
  repeat' (first|(k_unfold;(try dsimp only))|((with_reducible show wpAny _ _ (call _ _) _ _ _);first|(k_here;(with_reducible show wpAny _ _ (call (Value.ref 141) _) _ _ _);k_dflt (refine' no_implicit_lambda% (use_cur_str (take_at _ _ _ _ _ _ _ _ _ ?hl ?ha ?hne) ?hs ?U ?hne rfl ?B ?F ?X ?N ?T ?kk ?dd ?uu ?_);(case hl | ha=>assumption);tb_rel;(case hs=>first | assumption|(repeat' (first | exact trivial | k_mem | refine no_implicit_lambda% (And.intro ?_ ?_))));(case U=>k_updF);(case hne=>first | assumption | lia));intro qt1 qt2 qh' qtk' qF' qN';(have ha':=At.next ‹At _ _ (_ :: _)›);(try k_sweep))|(k_here;(with_reducible show wpAny _ _ (call (Value.ref 119) _) _ _ _);k_dflt (refine' no_implicit_lambda% (use_bool (done_at _ _ _ _ _ _ _ _ _ ?hl ?ha) ?hs ?B ?F ?X ?N ?T ?kk ?dd ?uu ?_);(case hl | ha=>assumption);tb_rel;(case hs=>first | assumption|(repeat' (first | exact trivial | k_mem | refine no_implicit_lambda% (And.intro ?_ ?_)))));intro qh' qtk' qF' qN';(try k_sweep)))|(k_here;(with_reducible show wpAny _ _ (eval (PySem.Expr.Call (PySem.Expr.Attribute (PySem.Expr.Name _ _) _ _) [] [] _) _) _ _ _);k_dflt (refine' no_implicit_lambda% (call_nm0 ?M ?F ?X ?N ?hm ?m1 ?m2 ?hl ?_);(case F=>k_asm);(case X=>k_in);(case N=>k_asm);(case hm=>exact rfl);(case m1 | m2=>k_mem);(case hl=>exact rfl);(case M=>first | exact mw8 _ | exact mw9 _ | exact mw10 _ | exact mw11 _ | exact mw12 _ | exact mw1 _ | exact mw2 _ | exact mw4 _ | exact mw5 _)))|walk1|(refine StD.nx (by with_reducible assumption) _ ?_)|(refine StD.rt (by with_reducible assumption) _ _ ?_)|(refine Ups.up (by with_reducible assumption) _ _ ?_;(try dsimp only))|(k_end;wrow_close)|dsimp only|(leave1;try dsimp only))
  all_goals exact done_c (by assumption) (by assumption) ⟨⟨_,congrArg (Value.str · _) (by decide +kernel)⟩,_,rfl⟩ (AllIn.c2 (by k_mem) (by k_mem))
end
set_option maxHeartbeats 4000000
section
variable {prog : Program} {w : World} {A : Around} {E : Value → Shared → Prop} {s : Shared} {h₀ : Heap} {L a : Addr} {m : Str → Option Value} {news : List (Addr × Obj)} {v : Value}
theorem one_list_sort {n : Nat} {P : PySem.Fin → Shared → Prop} (F : Fr h₀ L s.heap m) (N : News h₀ L s.heap news) (ho : s.heap.get? a = some (seqObj "list" #[v] n)) (haL : a ≠ L) (ha0 : h₀.get? a = none) (hna : ∀ p ∈ news,p.1 ≠ a)
    (h : ∀ e1 h',Fr h₀ L h' m → News h₀ L h' ((a,seqObj "list" #[v] e1) :: news) → P (.done (.ret .none)) { s with heap:=h' }) :
    wpAny (model prog w) A (Builtin.«list.sort» ⟨[.ref a],[]⟩) P E s:=by
  have ha : a < s.heap.objs.size:=Heap.lt_size ho
  have s1:=Heap.SameBut.update s.heap a (Obj.mapSeq fun _=>(#[] : Array Value))
  obtain ⟨e1,ho1⟩ : ∃ e1,(s.heap.update a (Obj.mapSeq fun _=>(#[] : Array Value))).get? a = some (seqObj "list" #[] e1):=⟨_,get?_update_seq ho fun _=>#[]⟩
  have F3 : Fr h₀ L (((s.heap.update a (Obj.mapSeq fun _=>(#[] : Array Value))).push (seqObj "tuple" #[v] 0)).push (seqObj "list" #[] 0)) m:=((kas_fr F s1 haL ha0).push _).push _
  have N2 : News h₀ L (((s.heap.update a (Obj.mapSeq fun _=>(#[] : Array Value))).push (seqObj "tuple" #[v] 0)).push (seqObj "list" #[] 0)) news :=
    (kas_news N s1 hna).grown fun b x e=>Heap.get?_push_of_some _ (Heap.get?_push_of_some _ e)
  have ho2 : (((s.heap.update a (Obj.mapSeq fun _=>(#[] : Array Value))).push (seqObj "tuple" #[v] 0)).push (seqObj "list" #[] 0)).get? a = some (seqObj "list" #[] e1):=Heap.get?_push_of_some _ (Heap.get?_push_of_some _ ho1)
  rw [list_sort_plain]
  refine wpAny_bind (listItems_at ho rfl ?_)
  refine wpAny_bind (listUpdate_at ho rfl ?_ (by show 1 ≤ _;rw [sizeLine_eq];lia) (Nat.zero_le _))
  refine wpAny_bind (seqEpoch_at ho1 rfl ?_)
  refine wpAny_bind (wpAny_newTuple ?_ (by show 1 ≤ _;rw [sizeLine_eq];lia))
  refine wpAny_bind (wpAny_newList ?_ (Nat.zero_le _))
  refine wpAny_holding ?_
  show wpAny (model prog w) A _ P E { s with heap:=((s.heap.update a (Obj.mapSeq fun _=>(#[] : Array Value))).push (seqObj "tuple" #[v] 0)).push (seqObj "list" #[] 0) }
  dsimp only
  have hn2 : #[v].size < 2:=by show 1 < 2;lia
  rw [if_pos hn2,if_pos hn2]
  refine wpAny_bind (wpAny_pure ?_)
  refine wpAny_bind (wpAny_pure ?_)
  dsimp only
  have ez : Array.map (fun x : Value × Value=>x.2) (arrOf (SortSt.mk' general' (#[v].zip #[v]) #[] 7 none)) = #[v]:=by
    show Array.map (fun x : Value × Value=>x.2) (#[v].zip #[v]) = #[v]
    simp
  rw [ez]
  have s2:=Heap.SameBut.update (((s.heap.update a (Obj.mapSeq fun _=>(#[] : Array Value))).push (seqObj "tuple" #[v] 0)).push (seqObj "list" #[] 0)) a (Obj.mapSeq fun _=>#[v])
  obtain ⟨c2,hc2⟩ : ∃ c2,((((s.heap.update a (Obj.mapSeq fun _=>(#[] : Array Value))).push (seqObj "tuple" #[v] 0)).push (seqObj "list" #[] 0)).update a (Obj.mapSeq fun _=>#[v])).get? a = some (seqObj "list" #[v] c2):=⟨_,get?_update_seq ho2 fun _=>#[v]⟩
  refine wpAny_bind (seqEpoch_at ho2 rfl ?_)
  refine wpAny_bind (listUpdate_at ho2 rfl ?_ (Nat.zero_le _) (by show 1 ≤ _;rw [sizeLine_eq];lia))
  simp only [bne_self_eq_false,Bool.false_eq_true,if_false]
  refine wpAny_pure (h c2 _ (kas_fr F3 s2 haL ha0) ?_)
  intro p hp
  rcases List.mem_cons.mp hp with rfl | hp
  · exact ⟨hc2,haL,ha0⟩
  · exact (kas_news N2 s2 hna) p hp
theorem sorted_one {l : Addr} {Q : Value → Shared → Prop} (F : Fr h₀ L s.heap m) (N : News h₀ L s.heap news) (hl : s.heap.IsList l #[v])
    (h : ∀ D e1 h',Fr h₀ L h' m → News h₀ L h' ((D,seqObj "list" #[v] e1) :: news) → (∀ q ∈ news,q.1 < D) → Q (.ref D) { s with heap:=h' }) :
    wpAny (model prog w) A (call (.builtin "sorted") [.ref l]) Q E s:=by
  refine Calls.call_function_entry kind_sorted plain_sorted entry_sorted (args_sorted1 _) ?_
  unfold Builtin.«sorted»
  refine wpAny_bind (m:=checkCount "sorted" 1 1 _) (wpAny_pure ?_)
  refine wpAny_bind (collect_list hl ?_ (by show 1 ≤ _;rw [sizeLine_eq];lia))
  refine wpAny_bind (wpAny_newList ?_ (by show 1 ≤ _;rw [sizeLine_eq];lia))
  have hsz : ((s.heap.push (seqObj "list" #[] 0)).update s.heap.objs.size (Obj.mapSeq (· ++ #[v]))).objs.size = s.heap.objs.size + 1:=by
    rw [Heap.size_update,size_push']
  have hoL : (((s.heap.push (seqObj "list" #[] 0)).update s.heap.objs.size (Obj.mapSeq (· ++ #[v]))).push (seqObj "list" #[v] 0)).get? (s.heap.objs.size + 1) = some (seqObj "list" #[v] 0):=by
    rw [← hsz];exact Heap.get?_push_size _ rfl
  have keep : ∀ b o,s.heap.get? b = some o → (((s.heap.push (seqObj "list" #[] 0)).update s.heap.objs.size (Obj.mapSeq (· ++ #[v]))).push (seqObj "list" #[v] 0)).get? b = some o:=fun b o q=>by
    have hlt : b < s.heap.objs.size:=Heap.lt_size q
    rw [Heap.get?_push_ne _ _ _ (by rw [hsz];exact Nat.ne_of_lt (Nat.lt_succ_of_lt hlt)),Heap.get?_update_ne _ _ _ _ (Nat.ne_of_lt hlt),Heap.get?_push_ne _ _ _ (Nat.ne_of_lt hlt)]
    exact q
  have hL : L < s.heap.objs.size:=F.ns.lt
  show wpAny _ _ _ _ _ { s with heap:=((s.heap.push (seqObj "list" #[] 0)).update s.heap.objs.size (Obj.mapSeq (· ++ #[v]))).push (seqObj "list" #[v] 0) }
  rw [hsz]
  refine wpAny_bind (wpAny_holding (wpAny_call_entry slot_list_sort ⟨_,hoL,rfl⟩ entry_list_sort ?body (args_list_sort _)))
  case body =>
    refine one_list_sort (s:={ s with heap:=((s.heap.push (seqObj "list" #[] 0)).update s.heap.objs.size (Obj.mapSeq (· ++ #[v]))).push (seqObj "list" #[v] 0) })
      (F.kept keep) (N.grown keep) hoL (Nat.ne_of_gt (Nat.lt_succ_of_lt hL)) (Heap.get?_none_of_le (Nat.le_trans F.above (Nat.le_succ_of_le (Nat.le_of_lt hL))))
      (fun p hp=>Nat.ne_of_lt (Nat.lt_succ_of_lt (Heap.lt_size (N p hp).1))) fun e1 h' F' N'=>?_
    exact ⟨_,rfl,wpAny_pure ⟨_,rfl,h _ e1 h' F' N' fun q hq=>Nat.lt_succ_of_lt (Heap.lt_size (N q hq).1)⟩⟩
end
theorem is_list_one {h₀ h : Heap} {L l : Addr} {news : List (Addr × Obj)} {v : Value} {xs : Array Value} {n : Nat} (N : News h₀ L h news) (hm : (l,W.listOf xs n) ∈ news) (e : xs = #[v]) : h.IsList l #[v]:=by
  subst e;exact ⟨_,(N _ hm).1,rfl,n,rfl⟩
set_option maxHeartbeats 4000000
section
variable {prog : Program} {w : World} {A : Around} {E : Value → Shared → Prop} {s : Shared} {h₀ : Heap} {L : Addr} {m : Str → Option Value} {env : Env}
def SrcS (prog : Program) (w : World) (A : Around) (h₀ : Heap) (L : Addr) (m : Str → Option Value) (env : Env) (elt : Expr) (x : Str) (scope : Scope) (cl : List (Str × Addr)) (Fin : Shared → List Value → List (Addr × Obj) → Prop) (xv : Value) (s₁ : Shared) : Prop :=
  ∃ y t news,xv = .str y t ∧ A.handled = none ∧ Fr h₀ L s₁.heap m ∧ News h₀ L s₁.heap news ∧ y.cps.all (· < 128) = true ∧ y.cps.size ≤ sizeLine ∧
    ∀ s₂ : Shared,(∃ h,s₂ = { s₁ with heap:=h }) → CompRest prog w A h₀ L m env elt x scope cl s₂ (fun _=>True) (SignAt y) (Fin s₂) y.cps.size 0 [] news
theorem str_st {I : Addr} {y : Str} {t : Tok} : ∀ i (h h' : Heap) (o : Obj) (nw : List (Addr × Obj)),h.IsStrIter I "str_ascii_iterator" y t i → h.get? I = some o → h'.get? I = some o → (∀ b o,h₀.get? b = some o → h'.get? b = some o) → News h₀ L h' nw → True → h'.IsStrIter I "str_ascii_iterator" y t i :=
  fun i h h' o nw st e e' _ _ _=>by obtain ⟨o',q,r⟩:=st;rw [e] at q;cases q;exact ⟨o,e',r⟩
theorem ListComp_S {elt iter : Expr} {x : Str} {px : Pos} {scope : Scope} {cl : List (Str × Addr)} {pos : Pos} {Q : Value → Shared → Prop} (F₀ : Fr h₀ L s.heap m)
    (hclos : closureFor scope env = pure cl) (hcell : ∀ y ∈ scope.names,y.2 ≠ .cell) (hkind : scope.kind = .function)
    (hnames : ∀ y ∈ scope.names,y.2 = .local → scope.names.lookup y.1 = some .local) (hx : scope.names.lookup x = some .local)
    (h : wpAny (model prog w) A (eval iter env) (SrcS prog w A h₀ L m env elt x scope cl (fun s₂=>FinE h₀ L m s₂ Q)) E s)
    (hs : ∀ x,foldedSetIterable iter env x = pure x:=by intro _;rfl) :
    wpAny (model prog w) A (eval (.ListComp elt [⟨.Name x px,iter,[],0⟩] scope pos) env) Q E s:=by
  rw [eval_ListComp]
  refine wpAny_comprehension_free (use:=none) rfl hs hclos hkind hnames (wpAny_mono h (fun xv s₁ h₁=>?_) fun _ _ e=>e)
  obtain ⟨y,t,news,rfl,hh,F,N,ha,hsz,R⟩:=h₁
  refine wpAny_pyIter_ascii ha ?_
  refine block_U (Walks.strAscii hh s₁.heap.objs.size y t) hsz (fun i h st=>by obtain ⟨o,e,_⟩:=st;exact ⟨o,e⟩) str_st hcell hkind hx ⟨_,Heap.get?_push_size _ rfl,rfl,rfl⟩ (fun b hb=>?_)
    (F.keeps fun _ _ e=>Heap.get?_push_of_some _ e) (N.grown fun _ _ e=>Heap.get?_push_of_some _ e) (Nat.ne_of_lt F.ns.lt) (next_is_new F) (fun p hp=>Nat.ne_of_lt (Heap.lt_size (N p hp).1)) trivial (R _ ⟨_,rfl⟩) ?_
  · rw [List.mem_singleton.mp hb]
    show s₁.heap.objs.size < (s₁.heap.push _).objs.size
    rw [Heap.size_push];exact Nat.lt_succ_self _
  · intro D C h tk m' ys news' F' N' o1 hn hC₀ hD₀ hCL hDL hCD offC fin
    refine ⟨m',hn,fun h'' hs''=>fin D h'' tk (F'.change hs'' hCL hC₀) (fun p hp=>?_) o1⟩
    refine ⟨hs''.extBut _ _ ?_ (N' p hp).1,(N' p hp).2⟩
    rcases List.mem_cons.mp hp with rfl | hp
    · exact Ne.symm hCD
    · exact offC p hp
theorem SrcS.of {elt : Expr} {x : Str} {scope : Scope} {cl : List (Str × Addr)} {Fin : Shared → List Value → List (Addr × Obj) → Prop} {y : Str} {t : Tok} {news : List (Addr × Obj)} {s₁ : Shared} {n : Nat}
    (hh : A.handled = none) (F : Fr h₀ L s₁.heap m) (N : News h₀ L s₁.heap news) (ha : y.cps.all (· < 128) = true) (hn : y.cps.size = n) (hsz : n ≤ sizeLine)
    (h : ∀ g,CompRest prog w A h₀ L m env elt x scope cl { s₁ with heap:=g } (fun _=>True) (SignAt y) (Fin { s₁ with heap:=g }) n 0 [] news) :
    SrcS prog w A h₀ L m env elt x scope cl Fin (.str y t) s₁:=⟨y,t,news,rfl,hh,F,N,ha,hn ▸ hsz,fun _ ⟨g,e⟩=>by rw [e,hn];exact h g⟩
end
theorem sign_at {y : Str} {i : Nat} {v : Value} {z : Str} (h : SignAt y i v) (e : (y.cps[i]?).map (fun c=>(⟨#[c]⟩ : Str)) = some z) : ∃ u,v = .str z u:=by
  obtain ⟨c,u,hc,rfl⟩:=h
  rw [hc] at e
  exact ⟨u,by rw [← Option.some.inj e]⟩
theorem sign_one {x : Nat} : ((Str.mk #[x]).cps[0]?).map (fun c=>(⟨#[c]⟩ : Str)) = some ⟨#[x]⟩:=rfl
theorem all_one {x : Nat} (h : x ≤ 127) : (Str.mk #[x]).cps.all (· < 128) = true:=by simp;lia
set_option maxHeartbeats 4000000
def TurnEnd (h₀ : Heap) (L I : Addr) (oI : Obj) (J' : (Str → Option Value) → Led → Prop) (s₁ : Shared) (Q : Flow → Shared → Prop) (f : Flow) (s₂ : Shared) : Prop :=
  match f with
  | .ret v=>Q (.ret v) s₂
  | .brk=>Q .next s₂
  | _=>∃ h' tk m' news',s₂ = { s₁ with heap:=h',toks:=tk } ∧ Fr h₀ L h' m' ∧ News h₀ L h' ((I,oI) :: news') ∧ (∀ p ∈ news',p.1 ≠ I) ∧ J' m' news'
section
variable {prog : Program} {w : World} {A : Around} {E : Value → Shared → Prop} {s : Shared} {h₀ : Heap} {m : Str → Option Value} {env : Env} {news : Led} {body : List Stmt} {Q : Flow → Shared → Prop}
theorem range_turns {x : Str} {px : Pos} {r : Addr} {a b : Int} {t u v : Tok} {n : Nat} (hr : IsRange s.heap r a b 1 t u v) (hsm : Builtin.Range.small a b 1 = true) (hn : Builtin.Range.rangeSize a b 1 = ((n : Nat) : Int)) (hh : A.handled = none)
    (F : Fr h₀ env.locals s.heap m) (N : News h₀ env.locals s.heap news) (J : Nat → (Str → Option Value) → Led → Prop) (h0 : J 0 m news)
    (step : ∀ i y m₁ news₁ h₁ tk₁ (I : Addr) oI,i < n → J i m₁ news₁ → Fr h₀ env.locals h₁ m₁ → News h₀ env.locals h₁ ((I,oI) :: news₁) → (∀ p ∈ news₁,p.1 ≠ I) →
      wpAny (model prog w) A (assign (.Name x px) env (.int (a + (i : Int)) y)) (fun _ s₃=>wpAny (model prog w) A (execs body env) (TurnEnd h₀ env.locals I oI (J (i + 1)) { s with heap:=h₁,toks:=tk₁ } Q) E s₃) E { s with heap:=h₁,toks:=tk₁ })
    (fin : ∀ h' tk m' news',Fr h₀ env.locals h' m' → News h₀ env.locals h' news' → J n m' news' → Q .next { s with heap:=h',toks:=tk }) :
    wpAny (model prog w) A (pyIter (.ref r)) (fun it s₂=>TurnsAt prog w A h₀ env (.Name x px) body Q E it s₂) E s:=by
  refine wpAny_pyIter_range hr hsm ?_
  have keep : ∀ d o,s.heap.get? d = some o → (s.heap.push { cls:=.type "range_iterator",data:=.fields #[rawInt a,rawInt (Builtin.Range.rangeSize a b 1),rawInt 1] }).get? d = some o:=fun _ _ e=>Heap.get?_push_of_some _ e
  have hI₀ : h₀.get? s.heap.objs.size = none:=next_is_new F
  have hIL : env.locals ≠ s.heap.objs.size:=Nat.ne_of_lt F.ns.lt
  refine ⟨s.heap.objs.size,[s.heap.objs.size],[s.heap.objs.size],n,_,_,_,m,news,J,rfl,KTurns.ofWalks (range_walks hh a n) (fun i v s Q E _ q=>wpAny_of_eq (rfl : letOwnedTupleGo (.Name x px) (.ref _) v = pure ()) q),?_,?_,?_,?_,F.keeps keep,N.grown keep,h0,?_,?_⟩
  · exact fun h=>hIL (List.mem_singleton.mp h)
  · intro b hb;rw [List.mem_singleton.mp hb];exact hI₀
  · intro p hp hm;exact absurd (List.mem_singleton.mp hm) (Nat.ne_of_lt (Heap.lt_size (N p hp).1))
  · show IsRangeIter _ _ _ _ _;rw [hn];simpa using Heap.get?_push_size _ rfl
  · intro i v' m₁ news₁ h₁ tk₁ own hi hP hJ hnw hown hown' howned hst F₁ N₁
    obtain ⟨y,rfl⟩:=hP
    obtain ⟨oI,hst'⟩ : ∃ oI,h₁.get? s.heap.objs.size = some oI:=⟨_,hst⟩
    have hmem:=howned _ (List.mem_singleton.mpr rfl) hI₀ _ hst'
    have off : ∀ p ∈ news₁,p.1 ≠ s.heap.objs.size:=fun p hp e=>hnw p hp (List.mem_singleton.mpr e)
    refine wpAny_mono (step i y m₁ news₁ h₁ tk₁ s.heap.objs.size oI hi hJ F₁ (fun p hp=>?_) off) (fun _ s₃ h3=>wpAny_mono h3 (fun f s₄ h4=>?_) fun _ _ e=>e) fun _ _ e=>e
    · rcases List.mem_cons.mp hp with rfl | hp
      · exact N₁ _ (List.mem_append_left _ hmem)
      · exact N₁ _ (List.mem_append_right _ hp)
    · have fin : (∃ h' tk m' news',s₄ = { s with heap:=h',toks:=tk } ∧ Fr h₀ env.locals h' m' ∧ News h₀ env.locals h' ((s.heap.objs.size,oI) :: news') ∧ (∀ p ∈ news',p.1 ≠ s.heap.objs.size) ∧ J (i + 1) m' news') →
          LoopStepU h₀ env.locals [s.heap.objs.size] own (J (i + 1)) { s with heap:=h₁,toks:=tk₁ } .next s₄:=by
        rintro ⟨h',tk,m',news',rfl,F',N',off',J'⟩
        refine ⟨rfl,h',tk,m',news',rfl,F',fun p hp=>?_,fun p hp hm=>off' p hp (List.mem_singleton.mp hm),J'⟩
        rcases List.mem_append.mp hp with hp | hp
        · have e1:=List.mem_singleton.mp (hown p hp)
          have e2:=hown' p hp
          rw [e1,hst'] at e2
          have e3 : p = (s.heap.objs.size,oI):=Prod.ext e1 (Option.some.inj e2).symm
          rw [e3];exact N' _ (.head _)
        · exact N' _ (.tail _ hp)
      cases f with
      | ret v=>exact h4
      | brk=>exact h4
      | cont=>exact fin h4
      | next=>exact fin h4
  · intro h' tk m' news' F' N' _ hJ
    exact fin h' tk m' news' F' N' hJ
theorem str_turns {x : Str} {px : Pos} {y : Str} {t : Tok} (ha : y.cps.all (· < 128) = true) (hh : A.handled = none)
    (F : Fr h₀ env.locals s.heap m) (N : News h₀ env.locals s.heap news) (J : Nat → (Str → Option Value) → Led → Prop) (h0 : J 0 m news)
    (step : ∀ i v m₁ news₁ h₁ tk₁ (I : Addr) oI,i < y.cps.size → SignAt y i v → J i m₁ news₁ → Fr h₀ env.locals h₁ m₁ → News h₀ env.locals h₁ ((I,oI) :: news₁) → (∀ p ∈ news₁,p.1 ≠ I) →
      wpAny (model prog w) A (assign (.Name x px) env v) (fun _ s₃=>wpAny (model prog w) A (execs body env) (TurnEnd h₀ env.locals I oI (J (i + 1)) { s with heap:=h₁,toks:=tk₁ } Q) E s₃) E { s with heap:=h₁,toks:=tk₁ })
    (fin : ∀ h' tk m' news',Fr h₀ env.locals h' m' → News h₀ env.locals h' news' → J y.cps.size m' news' → Q .next { s with heap:=h',toks:=tk }) :
    wpAny (model prog w) A (pyIter (.str y t)) (fun it s₂=>TurnsAt prog w A h₀ env (.Name x px) body Q E it s₂) E s:=by
  refine wpAny_pyIter_ascii ha ?_
  have keep : ∀ d o,s.heap.get? d = some o → (s.heap.push { cls:=.type "str_ascii_iterator",data:=.fields #[.str y t,.int 0 0] }).get? d = some o:=fun _ _ e=>Heap.get?_push_of_some _ e
  have hI₀ : h₀.get? s.heap.objs.size = none:=next_is_new F
  have hIL : env.locals ≠ s.heap.objs.size:=Nat.ne_of_lt F.ns.lt
  refine ⟨s.heap.objs.size,[s.heap.objs.size],[s.heap.objs.size],y.cps.size,_,_,_,m,news,J,rfl,KTurns.ofWalks (Walks.strAscii hh s.heap.objs.size y t) (fun i v s Q E _ q=>wpAny_of_eq (rfl : letOwnedTupleGo (.Name x px) (.ref _) v = pure ()) q),?_,?_,?_,?_,F.keeps keep,N.grown keep,h0,?_,?_⟩
  · exact fun h=>hIL (List.mem_singleton.mp h)
  · intro b hb;rw [List.mem_singleton.mp hb];exact hI₀
  · intro p hp hm;exact absurd (List.mem_singleton.mp hm) (Nat.ne_of_lt (Heap.lt_size (N p hp).1))
  · exact ⟨_,Heap.get?_push_size _ rfl,rfl,rfl⟩
  · intro i v' m₁ news₁ h₁ tk₁ own hi hP hJ hnw hown hown' howned hst F₁ N₁
    obtain ⟨oI,hst',_⟩:=hst
    have hmem:=howned _ (List.mem_singleton.mpr rfl) hI₀ _ hst'
    have off : ∀ p ∈ news₁,p.1 ≠ s.heap.objs.size:=fun p hp e=>hnw p hp (List.mem_singleton.mpr e)
    refine wpAny_mono (step i v' m₁ news₁ h₁ tk₁ s.heap.objs.size oI hi hP hJ F₁ (fun p hp=>?_) off) (fun _ s₃ h3=>wpAny_mono h3 (fun f s₄ h4=>?_) fun _ _ e=>e) fun _ _ e=>e
    · rcases List.mem_cons.mp hp with rfl | hp
      · exact N₁ _ (List.mem_append_left _ hmem)
      · exact N₁ _ (List.mem_append_right _ hp)
    · have fin : (∃ h' tk m' news',s₄ = { s with heap:=h',toks:=tk } ∧ Fr h₀ env.locals h' m' ∧ News h₀ env.locals h' ((s.heap.objs.size,oI) :: news') ∧ (∀ p ∈ news',p.1 ≠ s.heap.objs.size) ∧ J (i + 1) m' news') →
          LoopStepU h₀ env.locals [s.heap.objs.size] own (J (i + 1)) { s with heap:=h₁,toks:=tk₁ } .next s₄:=by
        rintro ⟨h',tk,m',news',rfl,F',N',off',J'⟩
        refine ⟨rfl,h',tk,m',news',rfl,F',fun p hp=>?_,fun p hp hm=>off' p hp (List.mem_singleton.mp hm),J'⟩
        rcases List.mem_append.mp hp with hp | hp
        · have e1:=List.mem_singleton.mp (hown p hp)
          have e2:=hown' p hp
          rw [e1,hst'] at e2
          have e3 : p = (s.heap.objs.size,oI):=Prod.ext e1 (Option.some.inj e2).symm
          rw [e3];exact N' _ (.head _)
        · exact N' _ (.tail _ hp)
      cases f with
      | ret v=>exact h4
      | brk=>exact h4
      | cont=>exact fin h4
      | next=>exact fin h4
  · intro h' tk m' news' F' N' _ hJ
    exact fin h' tk m' news' F' N' hJ
end
set_option maxHeartbeats 2000000
abbrev tup (xs : Array Value) : Obj:={ cls:=.type "tuple",data:=.seq xs }
def CsIn (tl : Led) (cs : Addr) (x : Int) : Prop:=∃ dcs h u sp p t1 t2,(cs,instObj 428 dcs) ∈ tl ∧ (dcs,dictOf [⟨h,.str (Str.ofString "spans") u,.ref sp⟩] 1) ∈ tl ∧ (sp,tup #[.ref p]) ∈ tl ∧ (p,tup #[.int x t1,.int x t2]) ∈ tl
def ChrIn (tl : Led) (v : Value) (x : Int) : Prop:=∃ a d h u cs,v = .ref a ∧ (a,instObj 515 d) ∈ tl ∧ (d,dictOf [⟨h,.str (Str.ofString "charset") u,.ref cs⟩] 1) ∈ tl ∧ CsIn tl cs x
theorem CsIn.up {tl tl' : Led} (h : ∀ q ∈ tl,q ∈ tl') {cs : Addr} {x : Int} (c : CsIn tl cs x) : CsIn tl' cs x:=by
  obtain ⟨a1,a2,a3,a4,a5,a6,a7,m1,m2,m3,m4⟩:=c
  exact ⟨a1,a2,a3,a4,a5,a6,a7,h _ m1,h _ m2,h _ m3,h _ m4⟩
theorem fin_cs {own rest : Led} {g h' : Heap} {s : Shared} {L' a1 a2 a3 a4 : Addr} {h : Int} {u t1 t2 : Tok} {x : Int} {m' : Str → Option Value} {tk' : Nat}
    (F : Fr g L' h' m') (N : News g L' h' ((a1,instObj 428 a2) :: (a2,dictOf [⟨h,.str (Str.ofString "spans") u,.ref a3⟩] 1) :: (a3,tup #[.ref a4]) :: (a4,tup #[.int x t1,.int x t2]) :: rest)) (hs : ∀ q ∈ own,q ∈ rest)
    (h1 : AllOff own [(a1,instObj 428 a2),(a2,dictOf [⟨h,.str (Str.ofString "spans") u,.ref a3⟩] 1),(a3,tup #[.ref a4]),(a4,tup #[.int x t1,.int x t2])]) :
    Done g s (RO own (fun tl r=>∃ cs,r = .ref cs ∧ CsIn tl cs x)) (.ref a1) { s with heap:=h',toks:=tk' } :=
  fin_ro F N [(a1,instObj 428 a2),(a2,dictOf [⟨h,.str (Str.ofString "spans") u,.ref a3⟩] 1),(a3,tup #[.ref a4]),(a4,tup #[.int x t1,.int x t2])] (fun q hq=>by
    rcases List.mem_append.mp hq with hq | hq
    · exact .tail _ (.tail _ (.tail _ (.tail _ (hs q hq))))
    · simp only [List.mem_cons,List.not_mem_nil,or_false] at hq ⊢
      rcases hq with h | h | h | h <;> simp [h]) h1 ⟨_,rfl,_,_,_,_,_,_,_,.head _,.tail _ (.head _),.tail _ (.tail _ (.head _)),.tail _ (.tail _ (.tail _ (.head _)))⟩
theorem made1 (w : World) (x : Int) (t1 t2 : Tok) (l p : Addr) (e : Nat) (hlp : @Ne Nat l p) (h0 : 0 ≤ x) (h1 : x ≤ 127) :
    Sat w 331 6 [.ref l] [(l,W.listOf #[.ref p] e),(p,tup #[.int x t1,.int x t2])] (RO [(l,W.listOf #[.ref p] e),(p,tup #[.int x t1,.int x t2])] (fun tl r=>∃ cs,r = .ref cs ∧ CsIn tl cs x)):=by
  refine' sat_of (binds:=[(Str.ofString "pairs",.ref l)]) ?ho ?hcd ?hn ?hbind ?hloc ?h ?hcell ?hco ?hgen ?hk
  (case ho=>k_is);(case hcd=>k_is);(case hn=>first | decide | lia);(case hbind=>intro s X;first | exact BindsTo.of_eq rfl | exact binds_K X rfl (by k_is) rfl rfl rfl);(case hloc=>exact locs rfl)
  (case hcell=>decide);(case hco=>rfl);(case hgen=>rfl);(case hk=>rfl)
  intros
  repeat' (first|(k_unfold;(try dsimp only))|(k_here;(with_reducible show wpAny _ _ (exec (Stmt.For (PySem.Expr.Tuple _ _ _) (PySem.Expr.Call _ _ _ _) _ _ _) _) _ _ _);(rename Fr _ _ _ _=>qlF');(with_unfolding_all refine' no_implicit_lambda% (For_turns qlF' ?_);k_whole))|((with_reducible show wpAny _ _ (call _ _) _ _ _);first|(k_here;(with_reducible show wpAny _ _ (call (Value.builtin _) [Value.ref _]) _ _ _);(with_unfolding_all refine' no_implicit_lambda% (sorted_one ?k1 ?k2 ?k3 ?_);(case k1=>k_asm);(case k2=>k_asm);(case k3=>exact is_list_one (by k_asm) (by k_mem) rfl);k_whole);intro qD' qe' qh' qF' qN' qord';(try k_lt qord');(try k_sweep))|(k_here;(with_reducible show wpAny _ _ (call (Value.ref 428) _) _ _ _);k_dflt (refine' no_implicit_lambda% (new_cs ?B ?F ?X ?N ?T ?kk ?dd ?uu ?_);tb_rel);intro qx' qd' qhh0 quu0 qh' qtk' qF' qN' ql1 ql2;(try k_sweep)))|walk1|(refine StD.nx (by with_reducible assumption) _ ?_)|(refine StD.rt (by with_reducible assumption) _ _ ?_)|(refine Ups.up (by with_reducible assumption) _ _ ?_;(try dsimp only))|(k_end;wrow_close)|dsimp only|(leave1;try dsimp only))
  have e0 : (if 0 > x then 0 else x) = x:=if_neg (by lia)
  have e1 : (if 127 < x then 127 else x) = x:=if_neg (by lia)
  rename News _ _ _ _=>N9
  rw [e0,e1] at N9
  refine fin_cs (by assumption) N9 ?hs ?ao
  case hs=>lcg_sub
  case ao=>lcg_off
theorem span1 (w : World) (x : Int) (t1 t2 : Tok) (h0 : 0 ≤ x) (h1 : x ≤ 127) :
    Sat w 321 8 [.int x t1,.int x t2] [] (fun r own'=>∃ cs,r = .ref cs ∧ CsIn own' cs x):=by
  refine' sat_of (binds:=[(Str.ofString "low",.int x t1),(Str.ofString "high",.int x t2)]) ?ho ?hcd ?hn ?hbind ?hloc ?h ?hcell ?hco ?hgen ?hk
  (case ho=>k_is);(case hcd=>k_is);(case hn=>first | decide | lia);(case hbind=>intro s X;first | exact BindsTo.of_eq rfl | exact binds_K X rfl (by k_is) rfl rfl rfl);(case hloc=>exact locs rfl)
  (case hcell=>decide);(case hco=>rfl);(case hgen=>rfl);(case hk=>rfl)
  intros
  repeat' (first|(k_unfold;(try dsimp only))|(k_here;(with_reducible show wpAny _ _ (call (Value.ref 331) _) _ _ _);k_dflt (refine' no_implicit_lambda% (use_ronR (made1 _ _ _ _ _ _ _ ?hlp ?h0 ?h1) ?hs ?B ?F ?X ?N ?T ?kk ?dd ?uu ?_);tb_rel;(case hs=>lcg_sub);(case hlp=>k_ne);(case h0=>lia);(case h1=>lia));intro qcs' qtl' qh' qtk' qF' qN' qhC' qhO';(try simp only [List.cons_append,List.nil_append,List.append_assoc] at qN');(try k_sweep))|walk1|(refine StD.nx (by with_reducible assumption) _ ?_)|(refine StD.rt (by with_reducible assumption) _ _ ?_)|(refine Ups.up (by with_reducible assumption) _ _ ?_;(try dsimp only))|(k_end;wrow_close)|dsimp only|(leave1;try dsimp only))
  rename News _ _ _ _=>N9
  refine done (by assumption) N9 ⟨_,rfl,CsIn.up ?s ‹CsIn _ _ _›⟩
  lcg_sub
theorem of1 (w : World) (x : Nat) (u : Tok) (hx : x ≤ 127) :
    Sat w 311 8 [.str ⟨#[x]⟩ u] [] (fun r own'=>∃ cs,r = .ref cs ∧ CsIn own' cs x):=by
  refine' sat_of (binds:=[(Str.ofString "text",.str ⟨#[x]⟩ u)]) ?ho ?hcd ?hn ?hbind ?hloc ?h ?hcell ?hco ?hgen ?hk
  (case ho=>k_is);(case hcd=>k_is);(case hn=>first | decide | lia);(case hbind=>intro s X;first | exact BindsTo.of_eq rfl | exact binds_K X rfl (by k_is) rfl rfl rfl);(case hloc=>exact locs rfl)
  (case hcell=>decide);(case hco=>rfl);(case hgen=>rfl);(case hk=>rfl)
  intros
  repeat' (first|(k_unfold;(try dsimp only))|(k_here;(with_reducible show wpAny _ _ (call (Value.ref 331) _) _ _ _);k_dflt (refine' no_implicit_lambda% (use_ronR (made1 _ _ _ _ _ _ _ ?hlp ?h0 ?h1) ?hs ?B ?F ?X ?N ?T ?kk ?dd ?uu ?_);tb_rel;(case hs=>lcg_sub);(case hlp=>k_ne);(case h0=>lia);(case h1=>lia));intro qcs' qtl' qh' qtk' qF' qN' qhC' qhO';(try simp only [List.cons_append,List.nil_append,List.append_assoc] at qN');(try k_sweep))|((fail_if_success (with_reducible show wpAny _ _ _ _ _ _));(with_unfolding_all (refine LCg.CompRest.succ ?_;intro qv' qI' qoI' qC' qoC' qD' qm' qh' qtk' qE' qhv' qhC' qhx' qF' qN' qoff' qne';(refine gen fun gG' gH'=>?_);(first | obtain ⟨qt9',qhv9'⟩:=sign_at qhv' sign_one | obtain ⟨qt9',qhv9'⟩:=sign_at (z:=Str.ofString "a") qhv' (by decide +kernel)|obtain ⟨qt9',qhv9'⟩:=sign_at (z:=Str.ofString "b") qhv' (by decide +kernel)|obtain ⟨qt9',qhv9'⟩:=sign_at (z:=Str.ofString "c") qhv' (by decide +kernel)|obtain ⟨qt9',qhv9'⟩:=sign_at (z:=Str.ofString "x") qhv' (by decide +kernel));subst qhv9';(try simp only [LCg.Off3,and_true] at qoff');(repeat (obtain ⟨⟨_,_,_⟩,qoff'⟩:=qoff'));(try (obtain ⟨_,_,_⟩:=qoff'));(try (obtain ⟨_,_,_⟩:=qne'));(refine gH' ?_);(clear gH'))))|((fail_if_success (with_reducible show wpAny _ _ _ _ _ _));(k_here;k_dflt (first|(refine SrcS.of (n:=1) (by rfl) (by k_asm) (by k_asm) (by decide +kernel) (by decide +kernel) (by first | size_fits | exact Nat.le_of_ble_eq_true rfl) ?_;intro qg')|(refine SrcS.of (n:=1) (by rfl) (by k_asm) (by k_asm) (all_one (by assumption)) (by rfl) (by first | size_fits | exact Nat.le_of_ble_eq_true rfl) ?_;intro qg')|(refine SrcS.of (n:=2) (by rfl) (by k_asm) (by k_asm) (by decide +kernel) (by decide +kernel) (by first | size_fits | exact Nat.le_of_ble_eq_true rfl) ?_;intro qg')|(refine SrcS.of (n:=0) (by rfl) (by k_asm) (by k_asm) (by decide +kernel) (by decide +kernel) (by first | size_fits | exact Nat.le_of_ble_eq_true rfl) ?_;intro qg'))))|(k_here;(with_reducible show wpAny _ _ (eval (Expr.ListComp _ [⟨_,Expr.Name _ _,_,_⟩] _ _) _) _ _ _);k_dflt (refine no_implicit_lambda% (ListComp_S (F₀:=by k_asm) (by with_unfolding_all rfl) (by decide) (by rfl) (by decide) (by rfl) ?_)))|walk1|(refine StD.nx (by with_reducible assumption) _ ?_)|(refine StD.rt (by with_reducible assumption) _ _ ?_)|(refine Ups.up (by with_reducible assumption) _ _ ?_;(try dsimp only))|(k_end;wrow_close)|dsimp only|(leave1;try dsimp only))
  rename News _ _ _ _=>N9
  refine done (by assumption) N9 ⟨_,rfl,CsIn.up ?s ‹CsIn _ _ _›⟩
  lcg_sub
set_option maxHeartbeats 2000000
inductive Tr | hole (v : Value)|empty | chars (x : Int)|cat (l r : Tr)|alt (l r : Tr)|star (b : Tr)|plus (b : Tr)|opt (b : Tr)
def NodeIn (tl : Led) : Tr → Value → Prop
  | .hole v0,v=>v = v0
  | .empty,v=>∃ a d n,v = .ref a ∧ (a,instObj 477 d) ∈ tl ∧ (d,dictOf [] n) ∈ tl
  | .chars x,v=>ChrIn tl v x
  | .cat l r,v=>∃ a d h1 u1 h2 u2 vl vr,v = .ref a ∧ (a,instObj 560 d) ∈ tl ∧ (d,dictOf [⟨h1,.str (Str.ofString "left") u1,vl⟩,⟨h2,.str (Str.ofString "right") u2,vr⟩] 2) ∈ tl ∧ NodeIn tl l vl ∧ NodeIn tl r vr
  | .alt l r,v=>∃ a d h1 u1 h2 u2 vl vr,v = .ref a ∧ (a,instObj 572 d) ∈ tl ∧ (d,dictOf [⟨h1,.str (Str.ofString "left") u1,vl⟩,⟨h2,.str (Str.ofString "right") u2,vr⟩] 2) ∈ tl ∧ NodeIn tl l vl ∧ NodeIn tl r vr
  | .star b,v=>∃ a d h1 u1 vb,v = .ref a ∧ (a,instObj 617 d) ∈ tl ∧ (d,dictOf [⟨h1,.str (Str.ofString "body") u1,vb⟩] 1) ∈ tl ∧ NodeIn tl b vb
  | .plus b,v=>∃ a d h1 u1 vb,v = .ref a ∧ (a,instObj 629 d) ∈ tl ∧ (d,dictOf [⟨h1,.str (Str.ofString "body") u1,vb⟩] 1) ∈ tl ∧ NodeIn tl b vb
  | .opt b,v=>∃ a d h1 u1 vb,v = .ref a ∧ (a,instObj 641 d) ∈ tl ∧ (d,dictOf [⟨h1,.str (Str.ofString "body") u1,vb⟩] 1) ∈ tl ∧ NodeIn tl b vb
def PairP (tl : Led) (C : Addr) (P R : Value → Prop) (v : Value) : Prop:=∃ a d h1 u1 h2 u2 vl vr,v = .ref a ∧ (a,instObj C d) ∈ tl ∧ (d,dictOf [⟨h1,.str (Str.ofString "left") u1,vl⟩,⟨h2,.str (Str.ofString "right") u2,vr⟩] 2) ∈ tl ∧ P vl ∧ R vr
def LoopP (tl : Led) (C : Addr) (P : Value → Prop) (v : Value) : Prop:=∃ a d h1 u1 vb,v = .ref a ∧ (a,instObj C d) ∈ tl ∧ (d,dictOf [⟨h1,.str (Str.ofString "body") u1,vb⟩] 1) ∈ tl ∧ P vb
def HdIn (tl : Led) (C : Addr) (v : Value) : Prop:=∃ a d es n,v = .ref a ∧ (a,instObj C d) ∈ tl ∧ (d,dictOf es n) ∈ tl ∧ getL (Str.ofString "name") es = some none
theorem PairP.up {tl tl' : Led} {C : Addr} {P R P' R' : Value → Prop} {v : Value} (h : ∀ q ∈ tl,q ∈ tl') (p : ∀ {v},P v → P' v) (r : ∀ {v},R v → R' v) (x : PairP tl C P R v) : PairP tl' C P' R' v:=by
  obtain ⟨a,d,h1,u1,h2,u2,vl,vr,e,m1,m2,n1,n2⟩:=x
  exact ⟨a,d,h1,u1,h2,u2,vl,vr,e,h _ m1,h _ m2,p n1,r n2⟩
theorem LoopP.up {tl tl' : Led} {C : Addr} {P P' : Value → Prop} {v : Value} (h : ∀ q ∈ tl,q ∈ tl') (p : ∀ {v},P v → P' v) (x : LoopP tl C P v) : LoopP tl' C P' v:=by
  obtain ⟨a,d,h1,u1,vb,e,m1,m2,n1⟩:=x
  exact ⟨a,d,h1,u1,vb,e,h _ m1,h _ m2,p n1⟩
theorem PairP.hd {tl : Led} {C : Addr} {P R : Value → Prop} {v : Value} (x : PairP tl C P R v) : HdIn tl C v:=by
  obtain ⟨a,d,h1,u1,h2,u2,vl,vr,e,m1,m2,_⟩:=x
  exact ⟨a,d,_,_,e,m1,m2,rfl⟩
theorem LoopP.hd {tl : Led} {C : Addr} {P : Value → Prop} {v : Value} (x : LoopP tl C P v) : HdIn tl C v:=by
  obtain ⟨a,d,h1,u1,vb,e,m1,m2,_⟩:=x
  exact ⟨a,d,_,_,e,m1,m2,rfl⟩
theorem HdIn.ref {tl : Led} {C : Addr} {v : Value} (x : HdIn tl C v) : ∃ a,v = .ref a:=x.elim fun a y=>⟨a,y.elim fun _ y=>y.elim fun _ y=>y.elim fun _ y=>y.1⟩
theorem NodeIn.up {tl tl' : Led} (h : ∀ q ∈ tl,q ∈ tl') {T : Tr} {v : Value} (hn : NodeIn tl T v) : NodeIn tl' T v:=by
  induction T generalizing v with
  | hole v0=>exact hn
  | empty=>obtain ⟨a,d,n,e,m1,m2⟩:=hn;exact ⟨a,d,n,e,h _ m1,h _ m2⟩
  | chars x=>obtain ⟨a,d,u,u2,cs,e,m1,m2,m3⟩:=hn;exact ⟨a,d,u,u2,cs,e,h _ m1,h _ m2,m3.up h⟩
  | cat l r i1 i2=>exact PairP.up (C:=560) h i1 i2 hn
  | alt l r i1 i2=>exact PairP.up (C:=572) h i1 i2 hn
  | star b i1=>exact LoopP.up (C:=617) h i1 hn
  | plus b i1=>exact LoopP.up (C:=629) h i1 hn
  | opt b i1=>exact LoopP.up (C:=641) h i1 hn
structure RK where
  r : Addr
  dr : Addr
  c : Addr
  dc : Addr
  h1 : Int
  h2 : Int
  h3 : Int
  h4 : Int
  u1 : Tok
  u2 : Tok
  u3 : Tok
  u4 : Tok
  dv : Value
  isP : Bool
  hT : Int
  hA : Int
  k1 : Tok
  k2 : Tok
  k3 : Tok
  tx : Str
abbrev rdD (R : RK) (k : Int) (t : Tok) : Obj:=dictOf [⟨R.h1,.str (Str.ofString "cursor") R.u1,.ref R.c⟩,⟨R.h2,.str (Str.ofString "definitions") R.u2,R.dv⟩,⟨R.h3,.str (Str.ofString "is_pattern") R.u3,.bool R.isP⟩,⟨R.h4,.str (Str.ofString "depth") R.u4,.int k t⟩] 4
abbrev rdr (R : RK) (k : Int) (t5 : Tok) (i : Int) (t4 : Tok) : Led:=[(R.r,instObj 879 R.dr),(R.dr,rdD R k t5),(R.c,instObj 222 R.dc),(R.dc,curD R.hT R.hA R.k1 R.k2 R.k3 t4 R.tx i)]
abbrev rdrT (R : RK) (k : Int) (t5 : Tok) (i : Int) (t4 : Tok) (tl : Led) : Led:=(R.r,instObj 879 R.dr) :: (R.dr,rdD R k t5) :: (R.c,instObj 222 R.dc) :: (R.dc,curD R.hT R.hA R.k1 R.k2 R.k3 t4 R.tx i) :: tl
def StopAt (b : Bool) (k : Int) : List Nat → Prop
  | []=>True
  | x :: _=>x = 124 ∨ x = 41 ∨ (b = true ∧ x = 32) ∨ (b = true ∧ k = 0 ∧ x = 47)
def GoAt (l : List Nat) : Prop:=(hdS l == Str.ofString "") = false ∧ (hdS l == Str.ofString "|") = false ∧ (hdS l == Str.ofString ")") = false ∧ occ0 (Str.ofString " \t\n") (hdS l) = true ∧ (hdS l == Str.ofString "/") = false ∧ (hdS l == Str.ofString "$") = false
def stopB (b : Bool) (k : Int) (z : Str) : Bool:=z == Str.ofString "" || z == Str.ofString "|" || z == Str.ofString ")" || (b && (!occ0 (Str.ofString " \t\n") z || (decide (k = 0) && (z == Str.ofString "/" || z == Str.ofString "$"))))
theorem stopB_go {b : Bool} {k : Int} {l : List Nat} (h : GoAt l) : stopB b k (hdS l) = false:=by
  obtain ⟨h1,h2,h3,h4,h5,h6⟩:=h
  unfold stopB
  rw [h1,h2,h3,h4,h5,h6]
  cases b <;> simp
theorem stopB_at {b : Bool} {k : Int} {l : List Nat} (h : StopAt b k l) : stopB b k (hdS l) = true:=by
  cases l with
  | nil=>show stopB b k (Str.ofString "") = true;unfold stopB;simp
  | cons x l =>
    rcases h with rfl | rfl | ⟨rfl,rfl⟩ | ⟨rfl,rfl,rfl⟩
    · show stopB b k ⟨#[124]⟩ = true;rw [show (⟨#[124]⟩ : Str) = Str.ofString "|" by decide +kernel];unfold stopB;simp
    · show stopB b k ⟨#[41]⟩ = true;rw [show (⟨#[41]⟩ : Str) = Str.ofString ")" by decide +kernel];unfold stopB;simp
    · show stopB true k ⟨#[32]⟩ = true
      unfold stopB;rw [show occ0 (Str.ofString " \t\n") ⟨#[32]⟩ = false by decide +kernel];simp
    · show stopB true 0 ⟨#[47]⟩ = true;rw [show (⟨#[47]⟩ : Str) = Str.ofString "/" by decide +kernel];unfold stopB;simp
section
variable {b : Bool} {k : Int} {z : Str}
theorem stop1 (h : (z == Str.ofString "") = true) : true = stopB b k z:=by unfold stopB;rw [h];simp
theorem stop2 (h : (z == Str.ofString "|") = true) : true = stopB b k z:=by unfold stopB;rw [h];simp
theorem stop3 (h : (z == Str.ofString ")") = true) : true = stopB b k z:=by unfold stopB;rw [h];simp
theorem stop4 (hb : b = true) (h : occ0 (Str.ofString " \t\n") z = false) : true = stopB b k z:=by unfold stopB;rw [h,hb];simp
theorem stop5 (hb : b = true) (hk : k = 0) (h : (z == Str.ofString "/") = true) : (z == Str.ofString "/") = stopB b k z:=by unfold stopB;rw [h,hb,hk];simp
theorem stop6 (h1 : (z == Str.ofString "") = false) (h2 : (z == Str.ofString "|") = false) (h3 : (z == Str.ofString ")") = false) (hb : b = true) (ho : occ0 (Str.ofString " \t\n") z = true) (hk : k = 0) (h : (z == Str.ofString "/") = false) : (z == Str.ofString "$") = stopB b k z:=by unfold stopB;rw [h1,h2,h3,ho,h,hb,hk];simp
theorem stop7 (h1 : (z == Str.ofString "") = false) (h2 : (z == Str.ofString "|") = false) (h3 : (z == Str.ofString ")") = false) (hb : b = true) (ho : occ0 (Str.ofString " \t\n") z = true) (hk : k ≠ 0) : (k == 0) = stopB b k z:=by unfold stopB;rw [h1,h2,h3,ho,hb,decide_eq_false hk,beq_false_of_ne hk];simp
theorem stop8 (h1 : (z == Str.ofString "") = false) (h2 : (z == Str.ofString "|") = false) (h3 : (z == Str.ofString ")") = false) (hb : b = false) : false = stopB b k z:=by unfold stopB;rw [h1,h2,h3,hb];simp
end
section
variable (w : World) (R : RK) (k : Int) (t5 : Tok) (i : Int) (t4 : Tok) (hl : R.tx.length ≤ 1000) {l : List Nat}
  (n1 : @Ne Nat R.r R.dr) (n2 : @Ne Nat R.r R.c) (n3 : @Ne Nat R.r R.dc) (n4 : @Ne Nat R.dr R.c) (n5 : @Ne Nat R.dr R.dc) (n6 : @Ne Nat R.c R.dc)
include hl n1 n2 n3 n4 n5 n6
theorem stop_sat (ha : At R.tx i l) :
    Sat w 787 4 [.ref R.r] (rdr R k t5 i t4) (fun r own'=>r = .bool (stopB R.isP k (hdS l)) ∧ own' = rdr R k t5 i t4):=by
  refine' sat_of (binds:=[(Str.ofString "self",.ref R.r)]) ?ho ?hcd ?hn ?hbind ?hloc ?h ?hcell ?hco ?hgen ?hk
  (case ho=>k_is);(case hcd=>k_is);(case hn=>first | decide | lia);(case hbind=>intro s X;first | exact BindsTo.of_eq rfl | exact binds_K X rfl (by k_is) rfl rfl rfl);(case hloc=>exact locs rfl)
  (case hcell=>decide);(case hco=>rfl);(case hgen=>rfl);(case hk=>rfl)
  intros
  repeat' (first|(k_unfold;(try dsimp only))|(k_here;(with_reducible show wpAny _ _ (compareOp CmpOp.In (Value.str _ _) (Value.str _ _)) _ _ _);first | refine no_implicit_lambda% (in_b ‹(Builtin.Str.occurrences _ _ _ _ _).isEmpty = _› ?_)|refine no_implicit_lambda% (in_b (b:=true) (by decide +kernel) ?_)|refine no_implicit_lambda% (in_b (b:=false) (by decide +kernel) ?_)|refine no_implicit_lambda% (in_b rfl ?_))|(k_here;(with_reducible show wpAny _ _ (call (Value.ref 127) _) _ _ _);k_dflt (refine' no_implicit_lambda% (use_str (peek_any _ _ _ _ _ _ _ _ _ ?hl ?ha) ?hs rfl ?B ?F ?X ?N ?T ?kk ?dd ?uu ?_);(case hl | ha=>assumption);tb_rel;(case hs=>first | assumption|(repeat' (first | exact trivial | k_mem | refine no_implicit_lambda% (And.intro ?_ ?_)))));intro qt qh' qtk' qF' qN';(try k_sweep))|((with_reducible show wpAny _ _ (eval _ _) _ _ _);first|(k_here;(with_reducible show wpAny _ _ (eval (PySem.Expr.Call (PySem.Expr.Attribute (PySem.Expr.Attribute (PySem.Expr.Name _ _) _ _) _ _) [] [] _) _) _ _ _);k_dflt (refine' no_implicit_lambda% (call_at0 ?O ?M ?F ?X ?N ?hm ?m1 ?m2 ?hl ?m3 ?m4 ?hl2 ?_);(case F=>k_asm);(case X=>k_in);(case N=>k_asm);(case hm=>exact rfl);(case m1 | m2=>k_mem);(case hl=>exact rfl);(case m3 | m4=>k_mem);(case hl2=>exact rfl);(case O=>exact ow1 _);(case M=>first | exact mw5 _ | exact mw2 _ | exact mw4 _ | exact mw1 _ | exact mw6 _ | exact mw12 _)))|(k_here;(with_reducible show wpAny _ _ (eval (PySem.Expr.Attribute (PySem.Expr.Name _ _) _ _) _) _ _ _);k_dflt (refine' no_implicit_lambda% (at_own ?O ?F ?X ?N ?hm ?m1 ?m2 ?hl ?hv ?_);(case F=>k_asm);(case X=>k_in);(case N=>k_asm);(case hm=>exact rfl);(case m1 | m2=>k_mem);(case hl=>exact rfl);(case hv=>k_handed);(case O=>first | exact ow1 _ | exact ow5 _ | exact ow6 _ | exact ow2 _ | exact ow3 _ | exact ow4 _ | exact ⟨by k_is,by k_is,_,by k_is,by k_is⟩))))|walk1|(refine StD.nx (by with_reducible assumption) _ ?_)|(refine StD.rt (by with_reducible assumption) _ _ ?_)|(refine Ups.up (by with_reducible assumption) _ _ ?_;(try dsimp only))|(k_end;wrow_close)|dsimp only|(leave1;try dsimp only))
  all_goals refine done (by assumption) (by assumption) ⟨congrArg Value.bool ?_,rfl⟩
  · exact stop1 (by assumption)
  · exact stop2 (by assumption)
  · exact stop3 (by assumption)
  · exact stop5 (by assumption) (by assumption) (by assumption)
  · exact stop6 (by assumption) (by assumption) (by assumption) (by assumption) (by assumption) (by assumption) (by assumption)
  · exact stop7 (by assumption) (by assumption) (by assumption) (by assumption) (by assumption) (by assumption)
  · exact stop4 (by assumption) (by assumption)
  · exact stop8 (by assumption) (by assumption) (by assumption) (by assumption)
end
theorem stop_no (w : World) (R : RK) (k : Int) (t5 : Tok) (i : Int) (t4 : Tok) (hl : R.tx.length ≤ 1000) {l : List Nat} (n1 : @Ne Nat R.r R.dr) (n2 : @Ne Nat R.r R.c) (n3 : @Ne Nat R.r R.dc) (n4 : @Ne Nat R.dr R.c) (n5 : @Ne Nat R.dr R.dc) (n6 : @Ne Nat R.c R.dc) (ha : At R.tx i l) (hg : GoAt l) :
    Sat w 787 4 [.ref R.r] (rdr R k t5 i t4) (fun r own'=>r = .bool false ∧ own' = rdr R k t5 i t4):=by
  have:=stop_sat w R k t5 i t4 hl n1 n2 n3 n4 n5 n6 ha
  rwa [stopB_go hg] at this
theorem stop_yes (w : World) (R : RK) (k : Int) (t5 : Tok) (i : Int) (t4 : Tok) (hl : R.tx.length ≤ 1000) {l : List Nat} (n1 : @Ne Nat R.r R.dr) (n2 : @Ne Nat R.r R.c) (n3 : @Ne Nat R.r R.dc) (n4 : @Ne Nat R.dr R.c) (n5 : @Ne Nat R.dr R.dc) (n6 : @Ne Nat R.c R.dc) (ha : At R.tx i l) (hs : StopAt R.isP k l) :
    Sat w 787 4 [.ref R.r] (rdr R k t5 i t4) (fun r own'=>r = .bool true ∧ own' = rdr R k t5 i t4):=by
  have:=stop_sat w R k t5 i t4 hl n1 n2 n3 n4 n5 n6 ha
  rwa [stopB_at hs] at this
def NoLoop (l : List Nat) : Prop:=(hdS l == Str.ofString "*") = false ∧ (hdS l == Str.ofString "+") = false ∧ (hdS l == Str.ofString "?") = false ∧ (hdS l == Str.ofString "{") = false
theorem noloop_of_stop {b : Bool} {k : Int} : ∀ {l : List Nat},StopAt b k l → NoLoop l
  | [],_=>by refine ⟨?_,?_,?_,?_⟩ <;> decide +kernel
  | x :: l,h=>by
    rcases h with rfl | rfl | ⟨_,rfl⟩ | ⟨_,_,rfl⟩ <;> (refine ⟨?_,?_,?_,?_⟩ <;> (dsimp only [hdS];decide +kernel))
def OffX (R : RK) (ex tl : Led) : Prop:=AllOff (rdrT R 0 0 0 0 ex) tl
theorem offX_nil {R : RK} {ex : Led} : OffX R ex []:=AllOff.nil'
theorem allLt_rdr {R : RK} {d : Addr} {k k' i i' : Int} {t5 t5' t4 t4' : Tok} {q : Led} : ∀ {pre : Led},AllLt d (pre ++ rdrT R k t5 i t4 q) → AllLt d (rdrT R k' t5' i' t4' q)
  | [],h=>h
  | _ :: _,h=>allLt_rdr h.2
theorem offX_cons {R : RK} {ex tl : Led} {x : Addr} {o : Obj} (h : AllLt x (rdrT R 0 0 0 0 ex)) (ho : OffX R ex tl) : OffX R ex ((x,o) :: tl):=AllOff.lt h ho
theorem allLt_app1 {d : Addr} {k i : Int} {t5 t4 : Tok} {R : RK} {a b : Led} (h : AllLt d (rdrT R k t5 i t4 (a ++ b))) : AllLt d (rdrT R 0 0 0 0 a):=by
  obtain ⟨h1,h2,h3,h4,h5⟩:=h
  exact ⟨h1,h2,h3,h4,(allLt_app.mp h5).1⟩
set_option maxHeartbeats 2000000
def loopT : Nat → Tr → Tr
  | 42,T=>.star T
  | 43,T=>.plus T
  | _,T=>.opt T
def loopsT : List Nat → Tr → Tr
  | [],T=>T
  | x :: l,T=>loopsT l (loopT x T)
theorem loopsT_snoc : ∀ (l : List Nat) (x : Nat) (T : Tr),loopsT (l ++ [x]) T = loopT x (loopsT l T)
  | [],_,_=>rfl
  | _ :: l,x,T=>loopsT_snoc l x _
abbrev loopM (R : RK) (v v' : Value) (ob ot : Option Value) : Str → Option Value:=fun y=>if y = Str.ofString "node" then some v' else if y = Str.ofString "begun" then ob else if y = Str.ofString "turn" then ot else List.lookup y [(Str.ofString "part",v),(Str.ofString "self",.ref R.r)]
theorem loopM_set (R : RK) (v v' a b c : Value) (ob ot : Option Value) : (fun y=>if y = Str.ofString "node" then some a else if y = Str.ofString "begun" then some b else if y = Str.ofString "turn" then some c else loopM R v v' ob ot y) = loopM R v a (some b) (some c):=by
  funext y
  by_cases h1 : y = Str.ofString "node"
  · simp only [loopM,if_pos h1]
  · by_cases h2 : y = Str.ofString "begun"
    · simp only [loopM,if_neg h1,if_pos h2]
    · by_cases h3 : y = Str.ofString "turn"
      · simp only [loopM,if_neg h1,if_neg h2,if_pos h3]
      · simp only [loopM,if_neg h1,if_neg h2,if_neg h3]
theorem loopM_init (R : RK) (v : Value) : (fun y=>if y = Str.ofString "node" then some v else List.lookup y [(Str.ofString "part",v),(Str.ofString "self",Value.ref R.r)]) = loopM R v v none none:=by
  funext y
  by_cases h1 : y = Str.ofString "node"
  · simp only [loopM,if_pos h1]
  · by_cases h2 : y = Str.ofString "begun"
    · simp only [loopM,if_neg h1,if_pos h2];subst h2;rfl
    · by_cases h3 : y = Str.ofString "turn"
      · simp only [loopM,if_neg h1,if_neg h2,if_pos h3];subst h3;rfl
      · simp only [loopM,if_neg h1,if_neg h2,if_neg h3]
section
variable (R : RK) (k : Int) (t5 : Tok) (i : Int) (t4 : Tok)
def LJ (ls rest : List Nat) (v : Value) (j : Nat) (m : Str → Option Value) (news : Led) : Prop :=
  ∃ dn ls' v' tl t4' ob ot,ls = dn ++ ls' ∧ dn.length = j ∧ At R.tx (i + j) (ls' ++ rest) ∧ news = rdrT R k t5 (i + j) t4' tl ∧ NodeIn tl (loopsT dn (.hole v)) v' ∧ OffX R [] tl ∧ m = loopM R v v' ob ot
end
theorem turn_ret {h₀ : Heap} {L I : Addr} {oI : Obj} {J' : (Str → Option Value) → Led → Prop} {s₁ s₂ : Shared} {Q : Flow → Shared → Prop} {v : Value} (h : Q (.ret v) s₂) : TurnEnd h₀ L I oI J' s₁ Q (.ret v) s₂:=h
theorem turn_next {k : Int} {t5 t4' t4'' : Tok} {i p p0 : Int} {ls rest dn l' : List Nat} {v v' : Value} {x : Nat} {j : Nat} {tl : Led} {ob ot : Option Value} {b c : Value} {h₀ h' : Heap} {L I x' d' cls : Addr} {oI : Obj} {hB : Int} {uB : Tok} {s₁ : Shared} {tk : Nat} {Q : Flow → Shared → Prop} {R : RK}
    (F : Fr h₀ L h' (fun y=>if y = Str.ofString "node" then some (.ref x') else if y = Str.ofString "begun" then some b else if y = Str.ofString "turn" then some c else loopM R v v' ob ot y))
    (N : News h₀ L h' ((x',instObj cls d') :: (d',dictOf [⟨hB,.str (Str.ofString "body") uB,v'⟩] 1) :: (I,oI) :: rdrT R k t5 p t4' tl)) (hp : p = i + j + 1)
    (e : ls = dn ++ x :: l') (e2 : dn.length = j) (ha : At R.tx (i + j) (x :: (l' ++ rest))) (hT : NodeIn tl (loopsT dn (.hole v)) v') (hO : OffX R [] tl) (off : ∀ q ∈ rdrT R k t5 p0 t4'' tl,q.1 ≠ I)
    (l1 : AllLt d' ((I,oI) :: rdrT R k t5 p t4' tl)) (l2 : @LT.lt Nat _ d' x')
    (hnode : ∀ tl' T,(x',instObj cls d') ∈ tl' → (d',dictOf [⟨hB,.str (Str.ofString "body") uB,v'⟩] 1) ∈ tl' → NodeIn tl' T v' → NodeIn tl' (loopT x T) (.ref x')) :
    TurnEnd h₀ L I oI (LJ R k t5 i ls rest v (j + 1)) s₁ Q .next { s₁ with heap:=h',toks:=tk }:=by
  have l3 : AllLt x' ((I,oI) :: rdrT R k t5 p t4' tl):=allLt_up l1 l2
  refine ⟨h',tk,_,rdrT R k t5 p t4' ((x',instObj cls d') :: (d',dictOf [⟨hB,.str (Str.ofString "body") uB,v'⟩] 1) :: tl),rfl,F,fun q hq=>N q ?_,?_,
    dn ++ [x],l',.ref x',(x',instObj cls d') :: (d',dictOf [⟨hB,.str (Str.ofString "body") uB,v'⟩] 1) :: tl,t4',some b,some c,by rw [e];simp,by simp [e2],?_,?_,?_,?_,loopM_set R v v' _ _ _ ob ot⟩
  · exact mem_swap (P:=(I,oI) :: rdrT R k t5 p t4' []) (N:=[(x',instObj cls d'),(d',dictOf [⟨hB,.str (Str.ofString "body") uB,v'⟩] 1)]) (tl:=tl) (by
      rcases List.mem_cons.mp hq with rfl | hq
      · exact .head _
      · exact .tail _ hq)
  · exact all_app (a:=rdrT R k t5 p t4' []) (b:=(x',_) :: (d',_) :: tl) (fun q hq=>by
      rcases List.mem_cons.mp hq with rfl | hq
      · exact off _ (.head _)
      rcases List.mem_cons.mp hq with rfl | hq
      · exact off _ (.tail _ (.head _))
      rcases List.mem_cons.mp hq with rfl | hq
      · exact off _ (.tail _ (.tail _ (.head _)))
      rcases List.mem_cons.mp hq with rfl | hq
      · exact off (R.dc,curD R.hT R.hA R.k1 R.k2 R.k3 t4'' R.tx p0) (.tail _ (.tail _ (.tail _ (.head _))))
      cases hq) (fun q hq=>by
      rcases List.mem_cons.mp hq with rfl | hq
      · exact Ne.symm (Nat.ne_of_lt l3.1)
      rcases List.mem_cons.mp hq with rfl | hq
      · exact Ne.symm (Nat.ne_of_lt l1.1)
      · exact off q (.tail _ (.tail _ (.tail _ (.tail _ hq)))))
  · have:=ha.next
    rwa [show i + ((j + 1 : Nat) : Int) = i + j + 1 by lia]
  · rw [hp,show i + ((j + 1 : Nat) : Int) = i + j + 1 by lia]
  · rw [loopsT_snoc]
    exact hnode _ _ (.head _) (.tail _ (.head _)) (hT.up fun q hq=>.tail _ (.tail _ hq))
  · exact offX_cons (allLt_app1 (a:=[]) l3.2) (offX_cons (allLt_app1 (a:=[]) l1.2) hO)
section
variable (w : World) (R : RK) (k : Int) (t5 : Tok) (i : Int) (t4 : Tok) (hl : R.tx.length ≤ 1000)
  (n1 : @Ne Nat R.r R.dr) (n2 : @Ne Nat R.r R.c) (n3 : @Ne Nat R.r R.dc) (n4 : @Ne Nat R.dr R.c) (n5 : @Ne Nat R.dr R.dc) (n6 : @Ne Nat R.c R.dc)
include hl n1 n2 n3 n4 n5 n6
theorem looped_sat (ls rest : List Nat) (v : Value) (hls : ∀ x ∈ ls,x = 42 ∨ x = 43 ∨ x = 63) (hn : ls.length ≤ 20) (hr : NoLoop rest) (ha : At R.tx i (ls ++ rest)) :
    Sat w 808 6 [.ref R.r,v] (rdr R k t5 i t4) (fun r own'=>∃ tl t4',own' = rdrT R k t5 (i + ls.length) t4' tl ∧ NodeIn tl (loopsT ls (.hole v)) r ∧ OffX R [] tl):=by
  refine' sat_of (binds:=[(Str.ofString "self",.ref R.r),(Str.ofString "part",v)]) ?ho ?hcd ?hn ?hbind ?hloc ?h ?hcell ?hco ?hgen ?hk
  (case ho=>k_is);(case hcd=>k_is);(case hn=>first | decide | lia);(case hbind=>intro s X;first | exact BindsTo.of_eq rfl | exact binds_K X rfl (by k_is) rfl rfl rfl);(case hloc=>exact locs rfl)
  (case hcell=>decide);(case hco=>rfl);(case hgen=>rfl);(case hk=>rfl)
  intros
  repeat' (first|(k_unfold;(try dsimp only))|(k_here;(with_reducible show wpAny _ _ (exec (Stmt.For (PySem.Expr.Name _ _) (PySem.Expr.Call _ _ _ _) _ _ _) _) _ _ _);(rename Fr _ _ _ _=>qlF');(with_unfolding_all refine' no_implicit_lambda% (For_turns qlF' ?_);k_whole))|walk1|(refine StD.nx (by with_reducible assumption) _ ?_)|(refine StD.rt (by with_reducible assumption) _ _ ?_)|(refine Ups.up (by with_reducible assumption) _ _ ?_;(try dsimp only))|(k_end;wrow_close)|dsimp only|(leave1;try dsimp only))
  rename IsRange _ _ _ _ _ _ _ _=>hR
  refine range_turns (n:=21) hR (by decide) (by decide) (by rfl) (by assumption) (by assumption) (LJ R k t5 i ls rest v) ?h0 ?step ?fin
  case h0=>exact ⟨[],ls,v,[],t4,none,none,rfl,rfl,by simpa using ha,by simp,rfl,offX_nil,loopM_init R v⟩
  case fin =>
    rintro h' tk m' news' F' N' ⟨dn,ls',_,_,_,_,_,e,e2,_⟩
    exfalso
    have:=congrArg List.length e
    simp at this;lia
  case step =>
    intro j y m₁ news₁ h₁ tk₁ I oI hj J9 F₁ N₁ off
    refine gen fun G9 hG9=>?_
    obtain ⟨dn,ls',v',tl,t4',ob,ot,e,e2,ha',rfl,hT,hO,rfl⟩:=J9
    have q1:=off _ (.head _);have q2:=off _ (.tail _ (.head _));have q3:=off _ (.tail _ (.tail _ (.head _)));have q4:=off _ (.tail _ (.tail _ (.tail _ (.head _))))
    replace q1 : @Ne Nat R.r I:=q1;replace q2 : @Ne Nat R.dr I:=q2;replace q3 : @Ne Nat R.c I:=q3;replace q4 : @Ne Nat R.dc I:=q4
    obtain ⟨p1,p2,p3,p4,_⟩:=id hO
    replace p1 : Off tl R.r:=p1;replace p2 : Off tl R.dr:=p2;replace p3 : Off tl R.c:=p3;replace p4 : Off tl R.dc:=p4
    have p5 : Off tl I:=fun p hp=>off p (.tail _ (.tail _ (.tail _ (.tail _ hp))))
    cases ls' with
    | cons x l' =>
      have hx:=hls x (by rw [e];simp)
      refine hG9 ?_;clear hG9
      repeat' (first|(k_unfold;(try dsimp only))|(k_here;(with_reducible show wpAny _ _ (call (Value.ref 148) _) _ _ _);k_dflt (refine' use_cur_bool (skip_yes _ _ _ _ _ _ _ _ _ ?hl ?ha _ _ ?hy ?hne) ?hs ?U ?hne ?B ?F ?X ?N ?T ?kk ?dd ?uu ?_;(case hl | ha=>assumption);(case hy=>rw [‹x = _›];rfl);tb_rel;(case hs=>first | assumption|(repeat' (first | exact trivial | k_mem | refine And.intro ?_ ?_)));(case U=>k_updF);(case hne=>first | assumption | lia));intro qt qh' qtk' qF' qN';(try k_sweep))|(k_here;(with_reducible show wpAny _ _ (call (Value.ref 148) _) _ _ _);k_dflt (refine' use_bool (skip_no _ _ _ _ _ _ _ _ _ ?hl ?ha _ _ ?hy ?hy2) ?hs ?B ?F ?X ?N ?T ?kk ?dd ?uu ?_;(case hl | ha=>assumption);(case hy=>first | assumption | rfl);(case hy2=>first|(rw [‹x = _›];rfl)|(rcases ‹x = _ ∨ x = _› with h | h <;> (rw [h];rfl)));tb_rel;(case hs=>first | assumption|(repeat' (first | exact trivial | k_mem | refine And.intro ?_ ?_))));intro qh' qtk' qF' qN';(try k_sweep))|(k_here;(with_reducible show wpAny _ _ (call (Value.ref 148) _) _ _ _);(refine Or.elim ‹x = _ ∨ _› (fun qe=>?_) (fun qe=>?_)))|(k_here;(with_reducible show wpAny _ _ (eval (PySem.Expr.Call (PySem.Expr.Attribute (PySem.Expr.Attribute (PySem.Expr.Name _ _) _ _) _ _) [PySem.Expr.Constant (Const.str _) _ _] [] _) _) _ _ _);k_dflt (refine' call_at1 ?O ?M ?F ?X ?N ?hm ?m1 ?m2 ?hl ?m3 ?m4 ?hl2 ?_;(case F=>k_asm);(case X=>k_in);(case N=>k_asm);(case hm=>exact rfl);(case m1 | m2=>k_mem);(case hl=>exact rfl);(case m3 | m4=>k_mem);(case hl2=>exact rfl);(case O=>exact ow1 _);(case M=>first | exact mw5 _ | exact mw2 _ | exact mw4 _ | exact mw1 _ | exact mw6 _ | exact mw12 _)))|(k_here;(with_reducible show wpAny _ _ (eval (PySem.Expr.Attribute (PySem.Expr.Name _ _) _ _) _) _ _ _);k_dflt (refine' at_own ?O ?F ?X ?N ?hm ?m1 ?m2 ?hl ?hv ?_;(case F=>k_asm);(case X=>k_in);(case N=>k_asm);(case hm=>exact rfl);(case m1 | m2=>k_mem);(case hl=>exact rfl);(case hv=>k_handed);(case O=>first | exact ow1 _ | exact ow5 _ | exact ow6 _ | exact ow2 _ | exact ow3 _ | exact ow4 _ | exact ⟨by k_is,by k_is,_,by k_is,by k_is⟩)))|(k_here;(with_reducible show wpAny _ _ (call (Value.ref 617) _) _ _ _);k_dflt (refine' new_star ?B ?F ?X ?N ?T ?kk ?dd ?uu ?_;tb_rel);intro qx qd qhh quu qh' qtk' qF' qN' ql1 ql2;(try k_sweep))|(k_here;(with_reducible show wpAny _ _ (call (Value.ref 629) _) _ _ _);k_dflt (refine' new_plus ?B ?F ?X ?N ?T ?kk ?dd ?uu ?_;tb_rel);intro qx qd qhh quu qh' qtk' qF' qN' ql1 ql2;(try k_sweep))|(k_here;(with_reducible show wpAny _ _ (call (Value.ref 641) _) _ _ _);k_dflt (refine' new_opt ?B ?F ?X ?N ?T ?kk ?dd ?uu ?_;tb_rel);intro qx qd qhh quu qh' qtk' qF' qN' ql1 ql2;(try k_sweep))|walk1|(refine StD.nx (by with_reducible assumption) _ ?_)|(refine StD.rt (by with_reducible assumption) _ _ ?_)|(refine Ups.up (by with_reducible assumption) _ _ ?_;(try dsimp only))|(k_end;wrow_close)|dsimp only|(leave1;try dsimp only))
      all_goals (have qe:=‹x = _›;subst qe)
      all_goals rename News _ _ _ _=>N9
      all_goals exact turn_next (by assumption) N9 (by rfl) e e2 ha' hT hO off (by assumption) (by assumption) (fun _ _ m1 m2 n=>⟨_,_,_,_,_,rfl,m1,m2,n⟩)
    | nil =>
      obtain rfl : ls = dn:=by rw [e];simp
      subst e2
      obtain ⟨b1,b2,b3,b4⟩:=hr
      replace ha' : At R.tx (i + ls.length) rest:=ha'
      refine hG9 ?_;clear hG9
      repeat' (first|(k_unfold;(try dsimp only))|((with_reducible show wpAny _ _ (call _ _) _ _ _);first|(k_here;(with_reducible show wpAny _ _ (call (Value.ref 148) _) _ _ _);k_dflt (refine' no_implicit_lambda% (use_bool (skip_not _ _ _ _ _ _ _ _ _ ?hl ?ha _ _ ?hy ?hn) ?hs ?B ?F ?X ?N ?T ?kk ?dd ?uu ?_);(case hl | ha=>assumption);(case hy | hn=>first | assumption | rfl);tb_rel;(case hs=>first | assumption|(repeat' (first | exact trivial | k_mem | refine no_implicit_lambda% (And.intro ?_ ?_)))));intro qh' qtk' qF' qN';(try k_sweep))|(k_here;(with_reducible show wpAny _ _ (call (Value.ref 127) _) _ _ _);k_dflt (refine' no_implicit_lambda% (use_str (peek_any _ _ _ _ _ _ _ _ _ ?hl ?ha) ?hs rfl ?B ?F ?X ?N ?T ?kk ?dd ?uu ?_);(case hl | ha=>assumption);tb_rel;(case hs=>first | assumption|(repeat' (first | exact trivial | k_mem | refine no_implicit_lambda% (And.intro ?_ ?_)))));intro qt qh' qtk' qF' qN';(try k_sweep)))|((with_reducible show wpAny _ _ (eval _ _) _ _ _);first|(k_here;(with_reducible show wpAny _ _ (eval (PySem.Expr.Call (PySem.Expr.Attribute (PySem.Expr.Attribute (PySem.Expr.Name _ _) _ _) _ _) [PySem.Expr.Constant (Const.str _) _ _] [] _) _) _ _ _);k_dflt (refine' no_implicit_lambda% (call_at1 ?O ?M ?F ?X ?N ?hm ?m1 ?m2 ?hl ?m3 ?m4 ?hl2 ?_);(case F=>k_asm);(case X=>k_in);(case N=>k_asm);(case hm=>exact rfl);(case m1 | m2=>k_mem);(case hl=>exact rfl);(case m3 | m4=>k_mem);(case hl2=>exact rfl);(case O=>exact ow1 _);(case M=>first | exact mw5 _ | exact mw2 _ | exact mw4 _ | exact mw1 _ | exact mw6 _ | exact mw12 _)))|(k_here;(with_reducible show wpAny _ _ (eval (PySem.Expr.Call (PySem.Expr.Attribute (PySem.Expr.Attribute (PySem.Expr.Name _ _) _ _) _ _) [] [] _) _) _ _ _);k_dflt (refine' no_implicit_lambda% (call_at0 ?O ?M ?F ?X ?N ?hm ?m1 ?m2 ?hl ?m3 ?m4 ?hl2 ?_);(case F=>k_asm);(case X=>k_in);(case N=>k_asm);(case hm=>exact rfl);(case m1 | m2=>k_mem);(case hl=>exact rfl);(case m3 | m4=>k_mem);(case hl2=>exact rfl);(case O=>exact ow1 _);(case M=>first | exact mw5 _ | exact mw2 _ | exact mw4 _ | exact mw1 _ | exact mw6 _ | exact mw12 _)))|(k_here;(with_reducible show wpAny _ _ (eval (PySem.Expr.Attribute (PySem.Expr.Name _ _) _ _) _) _ _ _);k_dflt (refine' no_implicit_lambda% (at_own ?O ?F ?X ?N ?hm ?m1 ?m2 ?hl ?hv ?_);(case F=>k_asm);(case X=>k_in);(case N=>k_asm);(case hm=>exact rfl);(case m1 | m2=>k_mem);(case hl=>exact rfl);(case hv=>k_handed);(case O=>first | exact ow1 _ | exact ow5 _ | exact ow6 _ | exact ow2 _ | exact ow3 _ | exact ow4 _ | exact ⟨by k_is,by k_is,_,by k_is,by k_is⟩))))|walk1|(refine StD.nx (by with_reducible assumption) _ ?_)|(refine StD.rt (by with_reducible assumption) _ _ ?_)|(refine Ups.up (by with_reducible assumption) _ _ ?_;(try dsimp only))|(k_end;wrow_close)|dsimp only|(leave1;try dsimp only))
      rename News _ _ _ _=>N9
      refine turn_ret ?_;refine StD.rt (by with_reducible assumption) _ _ ?_;refine Ups.up (by with_reducible assumption) _ _ ?_;(try dsimp only)
      refine done_s (by assumption) N9 (own':=rdrT R k t5 (i + ls.length) t4' tl) (fun q hq=>.tail _ hq) ?_
      exact ⟨tl,t4',rfl,hT,hO⟩
end
set_option maxHeartbeats 2000000
def RP (R : RK) (k : Int) (i : Int) (ex : Led) (V : Led → Value → Prop) : Value → Led → Prop:=fun r own'=>∃ tl t5' t4',own' = rdrT R k t5' i t4' (ex ++ tl) ∧ V tl r ∧ OffX R ex tl
theorem RP.up {R : RK} {k i i' : Int} {ex : Led} {V V' : Led → Value → Prop} (e : i = i') (hv : ∀ tl r,V tl r → V' tl r) : ∀ r o,RP R k i ex V r o → RP R k i' ex V' r o:=by
  rintro r o ⟨tl,t5',t4',a,b,c⟩
  exact ⟨tl,t5',t4',e ▸ a,hv _ _ b,c⟩
theorem offX_not {R : RK} {k i : Int} {t5 t4 : Tok} {ex tl : Led} (hX : OffX R ex tl) {q : Addr × Obj} (hq : q ∈ tl) : q.1 ∉ (rdrT R k t5 i t4 ex).map (·.1):=fun hm=>by
  obtain ⟨h1,h2,h3,h4,h5⟩:=hX
  simp only [rdrT,List.map_cons,List.mem_cons] at hm
  rcases hm with e | e | e | e | hm
  · exact h1 q hq e
  · exact h2 q hq e
  · exact h3 q hq e
  · exact h4 q hq e
  · obtain ⟨q',hq',e⟩:=List.mem_map.mp hm
    exact h5.mem q' hq' q hq e.symm
section
variable {w : World} {f : Addr} {n : Nat} {vs : List Value} {own news : Led} {p : Program} {loose : List Str} {mean : ExcName → Option Value} {mg mb : Str → Option Value} {dp un : Nat} {gd : Option (List Code)} {cn : Str} {cs : Scope} {a : Addr} {ccd : Value} {cl : List (Str × Addr)} {outer : List Env} {A₀ : Around} {base h₀ : Heap} {L : Addr} {m : Str → Option Value} {s : Shared} {Q E : Value → Shared → Prop}
theorem use_rd {R : RK} {k i i' : Int} {t5 t4 : Tok} {ex : Led} {V : Led → Value → Prop} {g1 : Obj → Led} {g2 : Obj → Obj → Led} (S : Sat w f n vs (rdrT R k t5 i t4 ex) (RP R k i' ex V)) (hs : ∀ q ∈ rdrT R k t5 i t4 ex,q ∈ news)
    (U1 : UpdF R.dr (rdD R k t5) news g1) (U2 : ∀ o,UpdF R.dc (curD R.hT R.hA R.k1 R.k2 R.k3 t4 R.tx i) (g1 o) (g2 o)) (B : Below A₀ base outer h₀) (F : Fr h₀ L s.heap m) (X : (KF w.params).In h₀) (N : News h₀ L s.heap news) (T : Top p loose mean mg mb h₀) (hk : cs.kind = .function) (hd : dp + n < recursionLimit) (hu : un + 8 * n < cLine)
    (ret : ∀ r tl t5' t4' h' tk',Fr h₀ L h' m → News h₀ L h' (g2 (rdD R k t5') (curD R.hT R.hA R.k1 R.k2 R.k3 t4' R.tx i') ++ tl) → V tl r → AllOff news tl → Q r { s with heap:=h',toks:=tk' }) : wpAny (model PR w) (ktrTop dp un gd cn cs L a ccd cl outer) (call (.ref f) vs) Q E s:=by
  refine S p loose mean mg mb dp un gd cn cs a ccd cl outer A₀ base h₀ L m s Q E B F X (fun q hq=>N q (hs q hq)) T hk hd hu fun r own' h' tk' F' N' keep fresh hV=>?_
  obtain ⟨tl,t5',t4',rfl,hV,hX⟩:=hV
  obtain ⟨pre1,post1,e1,hg1,a1,b1⟩:=U1.split
  obtain ⟨pre2,post2,e2,hg2,a2,b2⟩:=(U2 (rdD R k t5')).split
  have uniq : ∀ q ∈ news,∀ q' ∈ news,q.1 = q'.1 → q = q':=fun q hq q' hq' e=>by
    have x1:=(N q hq).1
    have x2:=(N q' hq').1
    rw [e] at x1
    exact Prod.ext e (Option.some.inj (x1.symm.trans x2))
  refine ret r tl t5' t4' h' tk' F' (fun q hq=>?_) hV (allOff_of fun p hp q hq e=>?_)
  · rcases List.mem_append.mp hq with hq | hq
    · rw [hg2] at hq
      have c2 : q = (R.dc,curD R.hT R.hA R.k1 R.k2 R.k3 t4' R.tx i') ∨ (q ∈ g1 (rdD R k t5') ∧ q.1 ≠ R.dc):=by
        rw [e2]
        rcases List.mem_append.mp hq with hq | hq
        · exact .inr ⟨List.mem_append_left _ hq,a2 q hq⟩
        · rcases List.mem_cons.mp hq with hq | hq
          · exact .inl hq
          · exact .inr ⟨List.mem_append_right _ (.tail _ hq),b2 q hq⟩
      rcases c2 with rfl | ⟨hq,hn2⟩
      · exact N' _ (.tail _ (.tail _ (.tail _ (.head _))))
      · rw [hg1] at hq
        have c1 : q = (R.dr,rdD R k t5') ∨ (q ∈ news ∧ q.1 ≠ R.dr):=by
          rw [e1]
          rcases List.mem_append.mp hq with hq | hq
          · exact .inr ⟨List.mem_append_left _ hq,a1 q hq⟩
          · rcases List.mem_cons.mp hq with hq | hq
            · exact .inl hq
            · exact .inr ⟨List.mem_append_right _ (.tail _ hq),b1 q hq⟩
        rcases c1 with rfl | ⟨hq,hn1⟩
        · exact N' _ (.tail _ (.head _))
        · by_cases hm : q.1 ∈ (rdrT R k t5 i t4 ex).map (·.1)
          · obtain ⟨q',hq',e⟩:=List.mem_map.mp hm
            have z:=uniq q hq q' (hs q' hq') e.symm
            subst z
            rcases List.mem_cons.mp hq' with rfl | hq'
            · exact N' _ (.head _)
            · rcases List.mem_cons.mp hq' with rfl | hq'
              · exact absurd rfl hn1
              · rcases List.mem_cons.mp hq' with rfl | hq'
                · exact N' _ (.tail _ (.tail _ (.head _)))
                · rcases List.mem_cons.mp hq' with rfl | hq'
                  · exact absurd rfl hn2
                  · exact N' _ (.tail _ (.tail _ (.tail _ (.tail _ (List.mem_append_left _ hq')))))
          · exact ⟨keep _ _ (N q hq).1 hm,(N q hq).2⟩
    · exact N' _ (.tail _ (.tail _ (.tail _ (.tail _ (List.mem_append_right _ hq)))))
  · have hq' : q ∈ rdrT R k t5' i' t4' (ex ++ tl):=.tail _ (.tail _ (.tail _ (.tail _ (List.mem_append_right _ hq))))
    have:=fresh q hq' (offX_not hX hq)
    rw [e,(N p hp).1] at this;cases this
end
theorem Sat.frame {w : World} {f : Addr} {n : Nat} {vs : List Value} {R : RK} {k i i' : Int} {t5 t4 : Tok} {ex : Led} {V : Led → Value → Prop} (S : Sat w f n vs (rdrT R k t5 i t4 []) (RP R k i' [] V)) (hE : OffX R [] ex) : Sat w f n vs (rdrT R k t5 i t4 ex) (RP R k i' ex V):=by
  intro p loose mean mg mb dp un gd cn cs a ccd cl outer A₀ base h₀ L m s Q E B F X N T hk hd hu ret
  have hsub : ∀ q ∈ rdrT R k t5 i t4 [],q ∈ rdrT R k t5 i t4 ex:=fun q hq=>by
    simp only [rdrT,List.mem_cons,List.not_mem_nil,or_false] at hq ⊢
    rcases hq with h | h | h | h <;> simp [h]
  refine S p loose mean mg mb dp un gd cn cs a ccd cl outer A₀ base h₀ L m s Q E B F X (fun q hq=>N q (hsub q hq)) T hk hd hu fun r own' h' tk' F' N' keep fresh hV=>?_
  obtain ⟨tl,t5',t4',rfl,hV,hX⟩:=hV
  have hf : ∀ q ∈ tl,s.heap.get? q.1 = none:=fun q hq=>fresh q (.tail _ (.tail _ (.tail _ (.tail _ hq)))) (offX_not hX hq)
  have hex : ∀ q ∈ ex,q ∈ rdrT R k t5 i t4 ex:=fun q hq=>.tail _ (.tail _ (.tail _ (.tail _ hq)))
  refine ret r (rdrT R k t5' i' t4' (ex ++ tl)) h' tk' F' (fun q hq=>?_) (fun b o e nb=>keep b o e fun hm=>nb ?_) (fun q hq nb=>?_) ⟨tl,t5',t4',rfl,hV,hX.1,hX.2.1,hX.2.2.1,hX.2.2.2.1,allOff_of fun p hp q hq e=>?_⟩
  · simp only [rdrT,List.mem_cons,List.mem_append] at hq
    rcases hq with rfl | rfl | rfl | rfl | hq | hq
    · exact N' _ (.head _)
    · exact N' _ (.tail _ (.head _))
    · exact N' _ (.tail _ (.tail _ (.head _)))
    · exact N' _ (.tail _ (.tail _ (.tail _ (.head _))))
    · exact ⟨keep _ _ (N q (hex q hq)).1 (offX_not hE hq),(N q (hex q hq)).2⟩
    · exact N' _ (.tail _ (.tail _ (.tail _ (.tail _ hq))))
  · obtain ⟨q,hq,e⟩:=List.mem_map.mp hm
    exact List.mem_map.mpr ⟨q,hsub q hq,e⟩
  · simp only [rdrT,List.mem_cons,List.mem_append] at hq
    rcases hq with rfl | rfl | rfl | rfl | hq | hq
    · exact absurd (by simp) nb
    · exact absurd (by simp) nb
    · exact absurd (by simp) nb
    · exact absurd (by simp) nb
    · exact absurd (List.mem_map_of_mem (hex q hq)) nb
    · exact hf q hq
  · have:=hf q hq
    rw [e,(N p (hex p hp)).1] at this;cases this
theorem AllIn.c4 {a b c d : Addr × Obj} {n : Led} (h1 : a ∈ n) (h2 : b ∈ n) (h3 : c ∈ n) (h4 : d ∈ n) : AllIn [a,b,c,d] n:=⟨h1,h2,h3,h4,trivial⟩
theorem fin2 {R : RK} {k k' p i' : Int} {t5 t4' : Tok} {ex tl : Led} {V : Led → Value → Prop} {g h' : Heap} {s : Shared} {L' x' d' : Addr} {o1 o2 : Obj} {m' : Str → Option Value} {v : Value} {tk' : Nat}
    (F : Fr g L' h' m') (N : News g L' h' ((x',o1) :: (d',o2) :: rdrT R k' t5 p t4' (ex ++ tl))) (e : p = i') (e' : k' = k) (l1 : AllLt d' (rdrT R k' t5 p t4' (ex ++ tl))) (l2 : @LT.lt Nat _ d' x') (hO : OffX R ex tl) (hV : V ((x',o1) :: (d',o2) :: tl) v) :
    Done g s (RP R k i' ex V) v { s with heap:=h',toks:=tk' }:=by
  subst e e'
  exact done_s F N (own':=rdrT R k' t5 p t4' (ex ++ ((x',o1) :: (d',o2) :: tl))) (fun q hq=>mem_mid (P:=rdrT R k' t5 p t4' []) (ex:=ex) (N:=[(x',o1),(d',o2)]) (tl:=tl) hq) ⟨_,_,_,rfl,hV,offX_cons (allLt_app1 (allLt_up l1 l2)) (offX_cons (allLt_app1 l1) hO)⟩
theorem fin0 {R : RK} {k k' p i' : Int} {t5 t4' : Tok} {ex tl : Led} {V : Led → Value → Prop} {g h' : Heap} {s : Shared} {L' : Addr} {m' : Str → Option Value} {v : Value} {tk' : Nat}
    (F : Fr g L' h' m') (N : News g L' h' (rdrT R k' t5 p t4' (ex ++ tl))) (e : p = i') (e' : k' = k) (hO : OffX R ex tl) (hV : V tl v) :
    Done g s (RP R k i' ex V) v { s with heap:=h',toks:=tk' }:=by
  subst e e'
  exact done_s F N (fun q hq=>hq) ⟨_,_,_,rfl,hV,hO⟩
theorem fin0d {R : RK} {k k' p i' : Int} {t5 t4' : Tok} {ex tl : Led} {V : Led → Value → Prop} {g h' : Heap} {s : Shared} {L' : Addr} {q : Addr × Obj} {m' : Str → Option Value} {v : Value} {tk' : Nat}
    (F : Fr g L' h' m') (N : News g L' h' (q :: rdrT R k' t5 p t4' (ex ++ tl))) (e : p = i') (e' : k' = k) (hO : OffX R ex tl) (hV : V tl v) :
    Done g s (RP R k i' ex V) v { s with heap:=h',toks:=tk' }:=fin0 F (fun q hq=>N q (.tail _ hq)) e e' hO hV
theorem offX_of {R : RK} {k i : Int} {t5 t4 : Tok} {ex tl : Led} (h : AllOff (rdrT R k t5 i t4 ex) tl) : OffX R ex tl:=⟨h.1,h.2.1,h.2.2.1,h.2.2.2.1,h.2.2.2.2⟩
structure Letter (x : Nat) : Prop where
  c1 : (Str.mk #[x] == Str.ofString "(") = false
  c2 : (Str.mk #[x] == Str.ofString "[") = false
  c3 : (Str.mk #[x] == Str.ofString "\"") = false
  c4 : (Str.mk #[x] == Str.ofString "{") = false
  c5 : (Str.mk #[x] == Str.ofString ".") = false
  c6 : occ0 (Str.ofString "*+?]}^$/ \t\n") ⟨#[x]⟩ = true
  c7 : (Str.mk #[x] == Str.ofString "\\") = false
  c8 : x ≤ 127
section
variable (w : World) (R : RK) (k : Int) (t5 : Tok) (i : Int) (t4 : Tok) (hl : R.tx.length ≤ 1000) {l : List Nat}
  (n1 : @Ne Nat R.r R.dr) (n2 : @Ne Nat R.r R.c) (n3 : @Ne Nat R.r R.dc) (n4 : @Ne Nat R.dr R.c) (n5 : @Ne Nat R.dr R.dc) (n6 : @Ne Nat R.c R.dc)
include hl n1 n2 n3 n4 n5 n6
theorem single_chr {x : Nat} (ha : At R.tx i (x :: l)) (hx : Letter x) :
    Sat w 829 10 [.ref R.r] (rdr R k t5 i t4) (RP R k (i + 1) [] (fun tl r=>ChrIn tl r x)):=by
  obtain ⟨c1,c2,c3,c4,c5,c6,c7,c8⟩:=hx
  refine' sat_of (binds:=[(Str.ofString "self",.ref R.r)]) ?ho ?hcd ?hn ?hbind ?hloc ?h ?hcell ?hco ?hgen ?hk
  (case ho=>k_is);(case hcd=>k_is);(case hn=>first | decide | lia);(case hbind=>intro s X;first | exact BindsTo.of_eq rfl | exact binds_K X rfl (by k_is) rfl rfl rfl);(case hloc=>exact locs rfl)
  (case hcell=>decide);(case hco=>rfl);(case hgen=>rfl);(case hk=>rfl)
  intros
  repeat' (first|(k_unfold;(try dsimp only))|((with_reducible show wpAny _ _ (call _ _) _ _ _);first|(k_here;(with_reducible show wpAny _ _ (call (Value.ref 321) _) _ _ _);k_dflt (refine' no_implicit_lambda% (use_newR (span1 _ _ _ _ ?h0 ?h1) ?B ?F ?X ?N ?T ?kk ?dd ?uu ?_);(case h0=>first | omega | decide +kernel);(case h1=>first | omega | decide +kernel);tb_rel);intro qcs' qtl' qh' qtk' qF' qN' qhC' qhO';(try simp only [List.cons_append,List.nil_append,List.append_assoc] at qN');(try k_sweep))|(k_here;(with_reducible show wpAny _ _ (call (Value.ref 515) _) _ _ _);k_dflt (refine' no_implicit_lambda% (new_chars ?B ?F ?X ?N ?T ?kk ?dd ?uu ?_);tb_rel);intro qx' qd' qhh0 quu0 qh' qtk' qF' qN' ql1 ql2;(try k_sweep))|(k_here;(with_reducible show wpAny _ _ (call (Value.ref 141) _) _ _ _);k_dflt (refine' no_implicit_lambda% (use_cur_str (take_at _ _ _ _ _ _ _ _ _ ?hl ?ha ?hne) ?hs ?U ?hne rfl ?B ?F ?X ?N ?T ?kk ?dd ?uu ?_);(case hl | ha=>assumption);tb_rel;(case hs=>first | assumption|(repeat' (first | exact trivial | k_mem | refine no_implicit_lambda% (And.intro ?_ ?_))));(case U=>k_updF);(case hne=>first | assumption | lia));intro qt1 qt2 qh' qtk' qF' qN';(have ha':=At.next ‹At _ _ (_ :: _)›);(try k_sweep)))|(k_here;(with_reducible show wpAny _ _ (compareOp CmpOp.In (Value.str _ _) (Value.str _ _)) _ _ _);first | refine no_implicit_lambda% (in_b ‹(Builtin.Str.occurrences _ _ _ _ _).isEmpty = _› ?_)|refine no_implicit_lambda% (in_b (b:=true) (by decide +kernel) ?_)|refine no_implicit_lambda% (in_b (b:=false) (by decide +kernel) ?_)|refine no_implicit_lambda% (in_b rfl ?_))|((with_reducible show wpAny _ _ (eval _ _) _ _ _);first|(k_here;(with_reducible show wpAny _ _ (eval (PySem.Expr.Call (PySem.Expr.Attribute (PySem.Expr.Attribute (PySem.Expr.Name _ _) _ _) _ _) [] [] _) _) _ _ _);k_dflt (refine' no_implicit_lambda% (call_at0 ?O ?M ?F ?X ?N ?hm ?m1 ?m2 ?hl ?m3 ?m4 ?hl2 ?_);(case F=>k_asm);(case X=>k_in);(case N=>k_asm);(case hm=>exact rfl);(case m1 | m2=>k_mem);(case hl=>exact rfl);(case m3 | m4=>k_mem);(case hl2=>exact rfl);(case O=>exact ow1 _);(case M=>first | exact mw5 _ | exact mw2 _ | exact mw4 _ | exact mw1 _ | exact mw6 _ | exact mw12 _)))|(k_here;(with_reducible show wpAny _ _ (eval (PySem.Expr.Attribute (PySem.Expr.Name _ _) _ _) _) _ _ _);k_dflt (refine' no_implicit_lambda% (at_own ?O ?F ?X ?N ?hm ?m1 ?m2 ?hl ?hv ?_);(case F=>k_asm);(case X=>k_in);(case N=>k_asm);(case hm=>exact rfl);(case m1 | m2=>k_mem);(case hl=>exact rfl);(case hv=>k_handed);(case O=>first | exact ow1 _ | exact ow5 _ | exact ow6 _ | exact ow2 _ | exact ow3 _ | exact ow4 _ | exact ⟨by k_is,by k_is,_,by k_is,by k_is⟩))))|walk1|(refine StD.nx (by with_reducible assumption) _ ?_)|(refine StD.rt (by with_reducible assumption) _ _ ?_)|(refine Ups.up (by with_reducible assumption) _ _ ?_;(try dsimp only))|(k_end;wrow_close)|dsimp only|(leave1;try dsimp only))
  rename News _ _ _ _=>N9
  rename AllOff _ _=>O9
  refine fin2 (by assumption) N9 rfl rfl (by assumption) (by assumption) (offX_of O9) ⟨_,_,_,_,_,rfl,.head _,.tail _ (.head _),CsIn.up (fun q hq=>.tail _ (.tail _ hq)) ‹CsIn _ _ _›⟩
end
def Sing (w : World) (R : RK) (ex : Led) (d : Nat) (mid : List Nat) (T : Tr) (n : Nat) : Prop :=
  ∀ (k : Int) (t5 : Tok) (i : Int) (t4 : Tok) (rest : List Nat),0 ≤ k → k + (d : Int) ≤ 20 → At R.tx i (mid ++ rest) → Sat w 829 n [.ref R.r] (rdrT R k t5 i t4 ex) (RP R k (i + mid.length) ex (fun tl r=>NodeIn tl T r))
def Reads (w : World) (R : RK) (ex : Led) (d : Nat) (mid : List Nat) (T : Tr) (n : Nat) : Prop :=
  ∀ (k : Int) (t5 : Tok) (i : Int) (t4 : Tok) (rest : List Nat),0 ≤ k → k + (d : Int) ≤ 20 → At R.tx i (mid ++ rest) → StopAt R.isP k rest → Sat w 801 n [.ref R.r] (rdrT R k t5 i t4 ex) (RP R k (i + mid.length) ex (fun tl r=>NodeIn tl T r))
section
variable (w : World) (R : RK) (hl : R.tx.length ≤ 1000)
  (n1 : @Ne Nat R.r R.dr) (n2 : @Ne Nat R.r R.c) (n3 : @Ne Nat R.r R.dc) (n4 : @Ne Nat R.dr R.c) (n5 : @Ne Nat R.dr R.dc) (n6 : @Ne Nat R.c R.dc)
include hl n1 n2 n3 n4 n5 n6
theorem looped_x {ex : Led} (hE : OffX R [] ex) (k : Int) (t5 : Tok) (i : Int) (t4 : Tok) {ls rest : List Nat} (v : Value) (hls : ∀ x ∈ ls,x = 42 ∨ x = 43 ∨ x = 63) (hn : ls.length ≤ 20) (hr : NoLoop rest) (ha : At R.tx i (ls ++ rest)) :
    Sat w 808 6 [.ref R.r,v] (rdrT R k t5 i t4 ex) (RP R k (i + ls.length) ex (fun tl r=>NodeIn tl (loopsT ls (.hole v)) r)) :=
  Sat.frame ((looped_sat w R k t5 i t4 hl n1 n2 n3 n4 n5 n6 ls rest v hls hn hr ha).rw (by
    rintro r o ⟨tl,t4',rfl,h,hO⟩;exact ⟨tl,t5,t4',rfl,h,hO⟩)) hE
theorem sing_chr {ex : Led} (hE : OffX R [] ex) {x : Nat} (hx : Letter x) : Sing w R ex 0 [x] (.chars x) 10:=fun k t5 i t4 rest h0 hk ha =>
  (single_chr w R k t5 i t4 hl n1 n2 n3 n4 n5 n6 ha hx).frame hE
end
set_option maxHeartbeats 2000000
theorem offX_mem {R : RK} {ex n tl : Led} {o1 o2 o3 o4 : Obj} (h : AllOff n tl) (m1 : (R.r,o1) ∈ n) (m2 : (R.dr,o2) ∈ n) (m3 : (R.c,o3) ∈ n) (m4 : (R.dc,o4) ∈ n) (hs : ∀ q ∈ ex,q ∈ n) : OffX R ex tl :=
  ⟨fun q hq=>h.mem _ m1 q hq,fun q hq=>h.mem _ m2 q hq,fun q hq=>h.mem _ m3 q hq,fun q hq=>h.mem _ m4 q hq,allOff_sub h hs⟩
theorem offX_app {R : RK} {ex a b : Led} (x : OffX R ex a) (y : OffX R ex b) : OffX R ex (a ++ b):=AllOff.app x y
local macro_rules | `(tactic| lcg_off)=>`(tactic| first
  | (refine' offX_mem ?h ?a ?b ?c ?d ?e;(case h=>with_reducible assumption);(case a | b | c | d=>k_mem);(case e=>lcg_sub))
  | (refine offX_app ?_ ?_ <;> lcg_off))
theorem cat0 (w : World) (l : Addr) (e : Nat) : Sat w 689 4 [.ref l] [(l,W.listOf #[] e)] (RO [(l,W.listOf #[] e)] (fun tl r=>NodeIn tl .empty r)):=by
  refine' sat_of (binds:=[(Str.ofString "nodes",.ref l)]) ?ho ?hcd ?hn ?hbind ?hloc ?h ?hcell ?hco ?hgen ?hk
  (case ho=>k_is);(case hcd=>k_is);(case hn=>first | decide | lia);(case hbind=>intro s X;first | exact BindsTo.of_eq rfl | exact binds_K X rfl (by k_is) rfl rfl rfl);(case hloc=>exact locs rfl)
  (case hcell=>decide);(case hco=>rfl);(case hgen=>rfl);(case hk=>rfl)
  intros
  repeat' (first|(k_unfold;(try dsimp only))|walk1|(refine StD.nx (by with_reducible assumption) _ ?_)|(refine StD.rt (by with_reducible assumption) _ _ ?_)|(refine Ups.up (by with_reducible assumption) _ _ ?_;(try dsimp only))|(k_end;wrow_close)|(dsimp only;walk1)|(leave1;try dsimp only))
  rename News _ _ _ _=>N9
  refine fin_ro2 (by assumption) N9 (fun q hq=>hq) (by lcg_off) (by lcg_off) ⟨_,_,_,rfl,.head _,.tail _ (.head _)⟩
theorem cat1 (w : World) (l : Addr) (e : Nat) (v : Value) : Sat w 689 4 [.ref l] [(l,W.listOf #[v] e)] (fun r own'=>r = v ∧ own' = [(l,W.listOf #[v] e)]):=by
  refine' sat_of (binds:=[(Str.ofString "nodes",.ref l)]) ?ho ?hcd ?hn ?hbind ?hloc ?h ?hcell ?hco ?hgen ?hk
  (case ho=>k_is);(case hcd=>k_is);(case hn=>first | decide | lia);(case hbind=>intro s X;first | exact BindsTo.of_eq rfl | exact binds_K X rfl (by k_is) rfl rfl rfl);(case hloc=>exact locs rfl)
  (case hcell=>decide);(case hco=>rfl);(case hgen=>rfl);(case hk=>rfl)
  intros
  repeat' (first|(k_unfold;(try dsimp only))|(k_here;(with_reducible show wpAny _ _ (exec (Stmt.For (PySem.Expr.Name _ _) (PySem.Expr.Subscript _ _ _) _ _ _) _) _ _ _);(rename Fr _ _ _ _=>qlF');(with_unfolding_all refine' no_implicit_lambda% (For_turns qlF' ?_);k_whole))|walk1|(refine StD.nx (by with_reducible assumption) _ ?_)|(refine StD.rt (by with_reducible assumption) _ _ ?_)|(refine Ups.up (by with_reducible assumption) _ _ ?_;(try dsimp only))|(k_end;wrow_close)|dsimp only|(leave1;try dsimp only))
  rename News _ _ _ _=>N9
  exact done_c (by assumption) N9 ⟨rfl,rfl⟩ ⟨.tail _ (.head _),trivial⟩
theorem cat2 (w : World) (l : Addr) (e : Nat) (v v' : Value) : Sat w 689 4 [.ref l] [(l,W.listOf #[v,v'] e)] (RO [(l,W.listOf #[v,v'] e)] (fun tl r=>NodeIn tl (.cat (.hole v) (.hole v')) r)):=by
  refine' sat_of (binds:=[(Str.ofString "nodes",.ref l)]) ?ho ?hcd ?hn ?hbind ?hloc ?h ?hcell ?hco ?hgen ?hk
  (case ho=>k_is);(case hcd=>k_is);(case hn=>first | decide | lia);(case hbind=>intro s X;first | exact BindsTo.of_eq rfl | exact binds_K X rfl (by k_is) rfl rfl rfl);(case hloc=>exact locs rfl)
  (case hcell=>decide);(case hco=>rfl);(case hgen=>rfl);(case hk=>rfl)
  intros
  repeat' (first|(k_unfold;(try dsimp only))|(k_here;(with_reducible show wpAny _ _ (exec (Stmt.For (PySem.Expr.Name _ _) (PySem.Expr.Subscript _ _ _) _ _ _) _) _ _ _);(rename Fr _ _ _ _=>qlF');(with_unfolding_all refine' no_implicit_lambda% (For_turns qlF' ?_);k_whole))|(k_here;(with_reducible show wpAny _ _ (call (Value.ref 560) _) _ _ _);k_dflt (refine' no_implicit_lambda% (new_cat ?B ?F ?X ?N ?T ?kk ?dd ?uu ?_);tb_rel);intro qx' qd' qhh0 qhh1 quu0 quu1 qh' qtk' qF' qN' ql1 ql2;(try k_sweep))|walk1|(refine StD.nx (by with_reducible assumption) _ ?_)|(refine StD.rt (by with_reducible assumption) _ _ ?_)|(refine Ups.up (by with_reducible assumption) _ _ ?_;(try dsimp only))|(k_end;wrow_close)|dsimp only|(leave1;try dsimp only))
  rename News _ _ _ _=>N9
  refine fin_ro2 (by assumption) N9 (fun q hq=>.tail _ hq) (by lcg_off) (by lcg_off) ⟨_,_,_,_,_,_,_,_,rfl,.head _,.tail _ (.head _),rfl,rfl⟩
theorem AllIn.c1 {a : Addr × Obj} {n : Led} (h1 : a ∈ n) : AllIn [a] n:=⟨h1,trivial⟩
theorem loopT_fill {tl tl' : Led} (hs : ∀ q ∈ tl,q ∈ tl') {S S' : Tr} (h : ∀ v,NodeIn tl S v → NodeIn tl' S' v) (x : Nat) : ∀ v,NodeIn tl (loopT x S) v → NodeIn tl' (loopT x S') v:=by
  intro v hv
  unfold loopT at *
  split at hv
  · obtain ⟨a,d,h1,u1,vb,e,m1,m2,n1⟩:=hv;exact ⟨a,d,h1,u1,vb,e,hs _ m1,hs _ m2,h _ n1⟩
  · obtain ⟨a,d,h1,u1,vb,e,m1,m2,n1⟩:=hv;exact ⟨a,d,h1,u1,vb,e,hs _ m1,hs _ m2,h _ n1⟩
  · obtain ⟨a,d,h1,u1,vb,e,m1,m2,n1⟩:=hv;exact ⟨a,d,h1,u1,vb,e,hs _ m1,hs _ m2,h _ n1⟩
theorem loopsT_fill {tl tl' : Led} (hs : ∀ q ∈ tl,q ∈ tl') : ∀ (ls : List Nat) {S S' : Tr},(∀ v,NodeIn tl S v → NodeIn tl' S' v) → ∀ v,NodeIn tl (loopsT ls S) v → NodeIn tl' (loopsT ls S') v
  | [],_,_,h,v,hv=>h v hv
  | x :: l,_,_,h,v,hv=>loopsT_fill hs l (loopT_fill hs h x) v hv
theorem loops_plug {tl1 tl2 : Led} {ls : List Nat} {T : Tr} {v0 v : Value} (h1 : NodeIn tl1 T v0) (h2 : NodeIn tl2 (loopsT ls (.hole v0)) v) : NodeIn (tl1 ++ tl2) (loopsT ls T) v :=
  loopsT_fill (fun q hq=>List.mem_append_right _ hq) ls (fun u e=>by cases (show u = v0 from e);exact h1.up fun q hq=>List.mem_append_left _ hq) v h2
theorem node_cat {tl : Led} {A B : Tr} {a b r : Value} (h : NodeIn tl (.cat (.hole a) (.hole b)) r) (ha : NodeIn tl A a) (hb : NodeIn tl B b) : NodeIn tl (.cat A B) r:=by
  obtain ⟨x1,x2,x3,x4,x5,x6,vl,vr,e,m1,m2,e1,e2⟩:=h
  cases e1;cases e2
  exact ⟨_,_,_,_,_,_,_,_,e,m1,m2,ha,hb⟩
section
variable (w : World) (R : RK) (hl : R.tx.length ≤ 1000)
  (n1 : @Ne Nat R.r R.dr) (n2 : @Ne Nat R.r R.c) (n3 : @Ne Nat R.r R.dc) (n4 : @Ne Nat R.dr R.c) (n5 : @Ne Nat R.dr R.dc) (n6 : @Ne Nat R.c R.dc)
  {ex : Led} (hE : OffX R [] ex)
include hl n1 n2 n3 n4 n5 n6 hE
theorem branch_one {d n : Nat} {mid ls : List Nat} {T : Tr} (hS : Sing w R ex d mid T n) (hls : ∀ x ∈ ls,x = 42 ∨ x = 43 ∨ x = 63) (hn : ls.length ≤ 20) (hg : ∀ rest,GoAt (mid ++ rest)) : Reads w R ex d (mid ++ ls) (loopsT ls T) (n + 10):=by
  intro k t5 i t4 rest h0 hk ha hst
  replace ha : At R.tx i (mid ++ (ls ++ rest)):=by simpa using ha
  have hg':=hg (ls ++ rest)
  have hr:=noloop_of_stop hst
  clear hg
  obtain ⟨x1,x2,x3,x4,_⟩:=id hE
  replace x1 : Off ex R.r:=x1;replace x2 : Off ex R.dr:=x2;replace x3 : Off ex R.c:=x3;replace x4 : Off ex R.dc:=x4
  refine' sat_of (binds:=[(Str.ofString "self",.ref R.r)]) ?ho ?hcd ?hn ?hbind ?hloc ?h ?hcell ?hco ?hgen ?hk
  (case ho=>k_is);(case hcd=>k_is);(case hn=>first | decide | lia);(case hbind=>intro s X;first | exact BindsTo.of_eq rfl | exact binds_K X rfl (by k_is) rfl rfl rfl);(case hloc=>exact locs rfl)
  (case hcell=>decide);(case hco=>rfl);(case hgen=>rfl);(case hk=>rfl)
  intros
  repeat' (first|(k_unfold;(try dsimp only))|((with_reducible show wpAny _ _ (call _ _) _ _ _);first|(k_here;(with_reducible show wpAny _ _ (call (Value.ref 808) _) _ _ _);k_dflt (refine' no_implicit_lambda% (use_rd (looped_x _ _ ?hl ?n1 ?n2 ?n3 ?n4 ?n5 ?n6 ?hE _ _ _ _ _ ?hls ?hn ?hr ?ha) ?hs ?U1 ?U2 ?B ?F ?X ?N ?T ?kk ?dd ?uu ?_);(case hl=>assumption);(case n1=>assumption);(case n2=>assumption);(case n3=>assumption);(case n4=>assumption);(case n5=>assumption);(case n6=>assumption);(case hls=>assumption);(case hn=>assumption);(case ha=>assumption);(case hE=>assumption);(case hr=>assumption);tb_rel;(case hs=>lcg_sub);(case U1=>k_updF);(case U2=>(intro qo';k_updF)));intro qr' qtl' qt5' qt4' qh' qtk' qF' qN' qhV' qhO';(have ha':=At.skip _ ‹At _ _ (_ ++ _)›);(try simp only [List.cons_append,List.nil_append,List.append_assoc] at qN');(try k_sweep))|(k_here;(with_reducible show wpAny _ _ (call (Value.ref 829) _) _ _ _);k_dflt (refine' no_implicit_lambda% (use_rd (‹Sing _ _ _ _ _ _ _› _ _ _ _ _ ?h0 ?hd ?ha) ?hs ?U1 ?U2 ?B ?F ?X ?N ?T ?kk ?dd ?uu ?_);(case ha=>assumption);tb_rel;(case hs=>lcg_sub);(case U1=>k_updF);(case U2=>(intro qo';k_updF));(case h0=>lia);(case hd=>lia));intro qr' qtl' qt5' qt4' qh' qtk' qF' qN' qhV' qhO';(have ha':=At.skip _ ‹At _ _ (_ ++ _)›);(try simp only [List.cons_append,List.nil_append,List.append_assoc] at qN');(try k_sweep))|(k_here;(with_reducible show wpAny _ _ (call (Value.ref 689) _) _ _ _);k_dflt (refine' no_implicit_lambda% (use_ro (cat1 _ _ _ _) ?hs ?B ?F ?X ?N ?T ?kk ?dd ?uu ?_);tb_rel;(case hs=>first | assumption|(repeat' (first | exact trivial | k_mem | refine no_implicit_lambda% (And.intro ?_ ?_)))));intro qr' qh' qtk' qF' qN' qhV';subst qhV';(try k_sweep))|(k_here;(with_reducible show wpAny _ _ (call (Value.ref 787) _) _ _ _);k_dflt (refine' no_implicit_lambda% (use_bool (stop_yes _ _ _ _ _ _ ?hl ?n1 ?n2 ?n3 ?n4 ?n5 ?n6 ?ha ?hst) ?hs ?B ?F ?X ?N ?T ?kk ?dd ?uu ?_);(case hl=>assumption);(case n1=>assumption);(case n2=>assumption);(case n3=>assumption);(case n4=>assumption);(case n5=>assumption);(case n6=>assumption);(case ha=>assumption);tb_rel;(case hs=>first | assumption|(repeat' (first | exact trivial | k_mem | refine no_implicit_lambda% (And.intro ?_ ?_))));(case hst=>first | assumption | exact Or.inl rfl | exact Or.inr (Or.inl rfl)));intro qh' qtk' qF' qN';(try k_sweep))|(k_here;(with_reducible show wpAny _ _ (call (Value.ref 787) _) _ _ _);k_dflt (refine' no_implicit_lambda% (use_bool (stop_no _ _ _ _ _ _ ?hl ?n1 ?n2 ?n3 ?n4 ?n5 ?n6 ?ha ?hg) ?hs ?B ?F ?X ?N ?T ?kk ?dd ?uu ?_);(case hl=>assumption);(case n1=>assumption);(case n2=>assumption);(case n3=>assumption);(case n4=>assumption);(case n5=>assumption);(case n6=>assumption);(case ha=>assumption);tb_rel;(case hs=>first | assumption|(repeat' (first | exact trivial | k_mem | refine no_implicit_lambda% (And.intro ?_ ?_))));(case hg=>assumption));intro qh' qtk' qF' qN';(try k_sweep)))|(k_here;(with_reducible show wpAny _ _ (exec (Stmt.While _ _ _ _) _) _ _ _);k_dflt (refine no_implicit_lambda% (whl_start 100 ?_)))|(k_here;(with_reducible show wpAny _ _ (eval (PySem.Expr.Call (PySem.Expr.Attribute (PySem.Expr.Name _ _) _ _) [] [] _) _) _ _ _);k_dflt (refine' no_implicit_lambda% (call_nm0 ?M ?F ?X ?N ?hm ?m1 ?m2 ?hl ?_);(case F=>k_asm);(case X=>k_in);(case N=>k_asm);(case hm=>exact rfl);(case m1 | m2=>k_mem);(case hl=>exact rfl);(case M=>first | exact mw8 _ | exact mw9 _ | exact mw10 _ | exact mw11 _ | exact mw12 _ | exact mw1 _ | exact mw2 _ | exact mw4 _ | exact mw5 _)))|walk1|(refine StD.nx (by with_reducible assumption) _ ?_)|(refine StD.rt (by with_reducible assumption) _ _ ?_)|(refine Ups.up (by with_reducible assumption) _ _ ?_;(try dsimp only))|(k_end;wrow_close)|dsimp only|(leave1;try dsimp only))
  rename News _ _ _ _=>N9
  refine fin0d (by assumption) N9 (by simp;lia) rfl ?o9 (loops_plug ‹NodeIn _ T _› ‹NodeIn _ (loopsT ls _) _›)
  lcg_off
theorem branch_empty : Reads w R ex 0 [] .empty 10:=by
  intro k t5 i t4 rest h0 hk ha hst
  replace ha : At R.tx i rest:=ha
  obtain ⟨x1,x2,x3,x4,_⟩:=id hE
  replace x1 : Off ex R.r:=x1;replace x2 : Off ex R.dr:=x2;replace x3 : Off ex R.c:=x3;replace x4 : Off ex R.dc:=x4
  refine' sat_of (binds:=[(Str.ofString "self",.ref R.r)]) ?ho ?hcd ?hn ?hbind ?hloc ?h ?hcell ?hco ?hgen ?hk
  (case ho=>k_is);(case hcd=>k_is);(case hn=>first | decide | lia);(case hbind=>intro s X;first | exact BindsTo.of_eq rfl | exact binds_K X rfl (by k_is) rfl rfl rfl);(case hloc=>exact locs rfl)
  (case hcell=>decide);(case hco=>rfl);(case hgen=>rfl);(case hk=>rfl)
  intros
  repeat' (first|(k_unfold;(try dsimp only))|(k_here;(with_reducible show wpAny _ _ (exec (Stmt.While _ _ _ _) _) _ _ _);k_dflt (refine no_implicit_lambda% (whl_start 100 ?_)))|((with_reducible show wpAny _ _ (call _ _) _ _ _);first|(k_here;(with_reducible show wpAny _ _ (call (Value.ref 689) _) _ _ _);k_dflt (refine' no_implicit_lambda% (use_ron (cat0 _ _ _) ?hs ?B ?F ?X ?N ?T ?kk ?dd ?uu ?_);tb_rel;(case hs=>lcg_sub));intro qr' qtl' qh' qtk' qF' qN' qhV' qhO';(try simp only [List.cons_append,List.nil_append,List.append_assoc] at qN');(try k_sweep))|(k_here;(with_reducible show wpAny _ _ (call (Value.ref 787) _) _ _ _);k_dflt (refine' no_implicit_lambda% (use_bool (stop_yes _ _ _ _ _ _ ?hl ?n1 ?n2 ?n3 ?n4 ?n5 ?n6 ?ha ?hst) ?hs ?B ?F ?X ?N ?T ?kk ?dd ?uu ?_);(case hl=>assumption);(case n1=>assumption);(case n2=>assumption);(case n3=>assumption);(case n4=>assumption);(case n5=>assumption);(case n6=>assumption);(case ha=>assumption);tb_rel;(case hs=>first | assumption|(repeat' (first | exact trivial | k_mem | refine no_implicit_lambda% (And.intro ?_ ?_))));(case hst=>first | assumption | exact Or.inl rfl | exact Or.inr (Or.inl rfl)));intro qh' qtk' qF' qN';(try k_sweep)))|(k_here;(with_reducible show wpAny _ _ (eval (PySem.Expr.Call (PySem.Expr.Attribute (PySem.Expr.Name _ _) _ _) [] [] _) _) _ _ _);k_dflt (refine' no_implicit_lambda% (call_nm0 ?M ?F ?X ?N ?hm ?m1 ?m2 ?hl ?_);(case F=>k_asm);(case X=>k_in);(case N=>k_asm);(case hm=>exact rfl);(case m1 | m2=>k_mem);(case hl=>exact rfl);(case M=>first | exact mw8 _ | exact mw9 _ | exact mw10 _ | exact mw11 _ | exact mw12 _ | exact mw1 _ | exact mw2 _ | exact mw4 _ | exact mw5 _)))|walk1|(refine StD.nx (by with_reducible assumption) _ ?_)|(refine StD.rt (by with_reducible assumption) _ _ ?_)|(refine Ups.up (by with_reducible assumption) _ _ ?_;(try dsimp only))|(k_end;wrow_close)|dsimp only|(leave1;try dsimp only))
  rename News _ _ _ _=>N9
  refine fin0d (by assumption) N9 (by simp) rfl ?o9 ‹NodeIn _ .empty _›
  lcg_off
end
theorem looped0 (w : World) (R : RK) (hl : R.tx.length ≤ 1000)
  (n1 : @Ne Nat R.r R.dr) (n2 : @Ne Nat R.r R.c) (n3 : @Ne Nat R.r R.dc) (n4 : @Ne Nat R.dr R.c) (n5 : @Ne Nat R.dr R.dc) (n6 : @Ne Nat R.c R.dc) {ex : Led} (hE : OffX R [] ex) (k : Int) (t5 : Tok) (i : Int) (t4 : Tok) {rest : List Nat} (v : Value) (hr : NoLoop rest) (ha : At R.tx i rest) :
    Sat w 808 6 [.ref R.r,v] (rdrT R k t5 i t4 ex) (RP R k i ex (fun tl r=>r = v)) :=
  (looped_x w R hl n1 n2 n3 n4 n5 n6 hE k t5 i t4 (ls:=[]) v (fun _ h=>by cases h) (by simp) hr ha).rw (RP.up (by simp) fun _ _ h=>h)
structure Reads2 (w : World) (R : RK) (ex : Led) (d : Nat) (mid : List Nat) (T : Tr) (n : Nat) : Prop where
  of : Reads w R ex d mid T n
def Chooses (w : World) (R : RK) (ex : Led) (d : Nat) (mid : List Nat) (T : Tr) (n : Nat) : Prop :=
  ∀ (k : Int) (t5 : Tok) (i : Int) (t4 : Tok) (rest : List Nat),0 ≤ k → k + (d : Int) ≤ 20 → At R.tx i (mid ++ 41 :: rest) → Sat w 794 n [.ref R.r] (rdrT R k t5 i t4 ex) (RP R k (i + mid.length) ex (fun tl r=>NodeIn tl T r))
section
variable {w : World} {A : Around} {E : Value → Shared → Prop} {s : Shared} {a b : Int} {t u : Tok} {Q : Value → Shared → Prop}
theorem eq_int_f (e : a ≠ b) (h : Q (.bool false) s) : wpAny (model PR w) A (compareOp .Eq (.int a t) (.int b u)) Q E s:=PyProof.Rows.eq_int (by rw [beq_false_of_ne e];exact h)
end
section
variable (w : World) (R : RK) (hl : R.tx.length ≤ 1000)
  (n1 : @Ne Nat R.r R.dr) (n2 : @Ne Nat R.r R.c) (n3 : @Ne Nat R.r R.dc) (n4 : @Ne Nat R.dr R.c) (n5 : @Ne Nat R.dr R.dc) (n6 : @Ne Nat R.c R.dc)
  {ex : Led} (hE : OffX R [] ex)
include hl n1 n2 n3 n4 n5 n6 hE
theorem branch_two {d n x : Nat} {mid : List Nat} {T : Tr} (h20 : 20 ≤ n) (hS : Sing w R ex d mid T n) (hx : Letter x) (hg : ∀ rest,GoAt (mid ++ rest)) (hgx : ∀ rest,GoAt (x :: rest)) (hnx : ∀ rest,NoLoop (x :: rest)) : Reads w R ex d (mid ++ [x]) (.cat T (.chars x)) (n + 2):=by
  intro k t5 i t4 rest h0 hk ha hst
  replace ha : At R.tx i (mid ++ (x :: rest)):=by simpa using ha
  have hg':=hg (x :: rest)
  have hgx':=hgx rest
  have hr:=noloop_of_stop hst
  have hr':=hnx rest
  clear hg hgx hnx
  obtain ⟨x1,x2,x3,x4,_⟩:=id hE
  replace x1 : Off ex R.r:=x1;replace x2 : Off ex R.dr:=x2;replace x3 : Off ex R.c:=x3;replace x4 : Off ex R.dc:=x4
  refine' sat_of (binds:=[(Str.ofString "self",.ref R.r)]) ?ho ?hcd ?hn ?hbind ?hloc ?h ?hcell ?hco ?hgen ?hk
  (case ho=>k_is);(case hcd=>k_is);(case hn=>first | decide | lia);(case hbind=>intro s X;first | exact BindsTo.of_eq rfl | exact binds_K X rfl (by k_is) rfl rfl rfl);(case hloc=>exact locs rfl)
  (case hcell=>decide);(case hco=>rfl);(case hgen=>rfl);(case hk=>rfl)
  intros
  repeat' (first|(k_unfold;(try dsimp only))|((with_reducible show wpAny _ _ (call _ _) _ _ _);first|(k_here;(with_reducible show wpAny _ _ (call (Value.ref 829) _) _ _ _);k_dflt (refine' no_implicit_lambda% (use_rd (sing_chr _ _ ?hl ?n1 ?n2 ?n3 ?n4 ?n5 ?n6 ?hE ?hx _ _ _ _ _ ?h0 ?hd ?ha) ?hs ?U1 ?U2 ?B ?F ?X ?N ?T ?kk ?dd ?uu ?_);(case hl=>assumption);(case n1=>assumption);(case n2=>assumption);(case n3=>assumption);(case n4=>assumption);(case n5=>assumption);(case n6=>assumption);(case hx=>assumption);(case ha=>assumption);(case hE=>assumption);tb_rel;(case hs=>lcg_sub);(case U1=>k_updF);(case U2=>(intro qo';k_updF));(case h0=>lia);(case hd=>lia));intro qr' qtl' qt5' qt4' qh' qtk' qF' qN' qhV' qhO';(have ha':=At.next ‹At _ _ (_ :: _)›);(try simp only [List.cons_append,List.nil_append,List.append_assoc] at qN');(try k_sweep))|(k_here;(with_reducible show wpAny _ _ (call (Value.ref 808) _) _ _ _);k_dflt (refine' no_implicit_lambda% (use_rd (looped0 _ _ ?hl ?n1 ?n2 ?n3 ?n4 ?n5 ?n6 ?hE _ _ _ _ _ ?hr ?ha) ?hs ?U1 ?U2 ?B ?F ?X ?N ?T ?kk ?dd ?uu ?_);(case hl=>assumption);(case n1=>assumption);(case n2=>assumption);(case n3=>assumption);(case n4=>assumption);(case n5=>assumption);(case n6=>assumption);(case ha=>assumption);(case hr=>assumption);(case hE=>assumption);tb_rel;(case hs=>lcg_sub);(case U1=>k_updF);(case U2=>(intro qo';k_updF)));intro qr' qtl' qt5' qt4' qh' qtk' qF' qN' qhV' qhO';subst qhV';(try simp only [List.cons_append,List.nil_append,List.append_assoc] at qN');(try k_sweep))|(k_here;(with_reducible show wpAny _ _ (call (Value.ref 829) _) _ _ _);k_dflt (refine' no_implicit_lambda% (use_rd (‹Sing _ _ _ _ _ _ _› _ _ _ _ _ ?h0 ?hd ?ha) ?hs ?U1 ?U2 ?B ?F ?X ?N ?T ?kk ?dd ?uu ?_);(case ha=>assumption);tb_rel;(case hs=>lcg_sub);(case U1=>k_updF);(case U2=>(intro qo';k_updF));(case h0=>lia);(case hd=>lia));intro qr' qtl' qt5' qt4' qh' qtk' qF' qN' qhV' qhO';(have ha':=At.skip _ ‹At _ _ (_ ++ _)›);(try simp only [List.cons_append,List.nil_append,List.append_assoc] at qN');(try k_sweep))|(k_here;(with_reducible show wpAny _ _ (call (Value.ref 689) _) _ _ _);k_dflt (refine' no_implicit_lambda% (use_ron (cat2 _ _ _ _ _) ?hs ?B ?F ?X ?N ?T ?kk ?dd ?uu ?_);tb_rel;(case hs=>lcg_sub));intro qr' qtl' qh' qtk' qF' qN' qhV' qhO';(try simp only [List.cons_append,List.nil_append,List.append_assoc] at qN');(try k_sweep))|(k_here;(with_reducible show wpAny _ _ (call (Value.ref 787) _) _ _ _);k_dflt (refine' no_implicit_lambda% (use_bool (stop_yes _ _ _ _ _ _ ?hl ?n1 ?n2 ?n3 ?n4 ?n5 ?n6 ?ha ?hst) ?hs ?B ?F ?X ?N ?T ?kk ?dd ?uu ?_);(case hl=>assumption);(case n1=>assumption);(case n2=>assumption);(case n3=>assumption);(case n4=>assumption);(case n5=>assumption);(case n6=>assumption);(case ha=>assumption);tb_rel;(case hs=>first | assumption|(repeat' (first | exact trivial | k_mem | refine no_implicit_lambda% (And.intro ?_ ?_))));(case hst=>first | assumption | exact Or.inl rfl | exact Or.inr (Or.inl rfl)));intro qh' qtk' qF' qN';(try k_sweep))|(k_here;(with_reducible show wpAny _ _ (call (Value.ref 787) _) _ _ _);k_dflt (refine' no_implicit_lambda% (use_bool (stop_no _ _ _ _ _ _ ?hl ?n1 ?n2 ?n3 ?n4 ?n5 ?n6 ?ha ?hg) ?hs ?B ?F ?X ?N ?T ?kk ?dd ?uu ?_);(case hl=>assumption);(case n1=>assumption);(case n2=>assumption);(case n3=>assumption);(case n4=>assumption);(case n5=>assumption);(case n6=>assumption);(case ha=>assumption);tb_rel;(case hs=>first | assumption|(repeat' (first | exact trivial | k_mem | refine no_implicit_lambda% (And.intro ?_ ?_))));(case hg=>assumption));intro qh' qtk' qF' qN';(try k_sweep)))|(k_here;(with_reducible show wpAny _ _ (exec (Stmt.While _ _ _ _) _) _ _ _);k_dflt (refine no_implicit_lambda% (whl_start 100 ?_)))|(k_here;(with_reducible show wpAny _ _ (eval (PySem.Expr.Call (PySem.Expr.Attribute (PySem.Expr.Name _ _) _ _) [] [] _) _) _ _ _);k_dflt (refine' no_implicit_lambda% (call_nm0 ?M ?F ?X ?N ?hm ?m1 ?m2 ?hl ?_);(case F=>k_asm);(case X=>k_in);(case N=>k_asm);(case hm=>exact rfl);(case m1 | m2=>k_mem);(case hl=>exact rfl);(case M=>first | exact mw8 _ | exact mw9 _ | exact mw10 _ | exact mw11 _ | exact mw12 _ | exact mw1 _ | exact mw2 _ | exact mw4 _ | exact mw5 _)))|walk1|(refine StD.nx (by with_reducible assumption) _ ?_)|(refine StD.rt (by with_reducible assumption) _ _ ?_)|(refine Ups.up (by with_reducible assumption) _ _ ?_;(try dsimp only))|(k_end;wrow_close)|dsimp only|(leave1;try dsimp only))
  rename News _ _ _ _=>N9
  refine fin0d (by assumption) N9 (by simp;lia) rfl ?o9 (node_cat (NodeIn.up ?s1 ‹NodeIn _ (.cat (.hole _) (.hole _)) _›) (NodeIn.up ?s2 ‹NodeIn _ T _›) (NodeIn.up ?s3 ‹NodeIn _ (.chars x) _›))
  case o9=>lcg_off
  case s1=>lcg_sub
  case s2=>lcg_sub
  case s3=>lcg_sub
end
set_option maxHeartbeats 2000000
section
variable (w : World) (R : RK) (hl : R.tx.length ≤ 1000)
  (n1 : @Ne Nat R.r R.dr) (n2 : @Ne Nat R.r R.c) (n3 : @Ne Nat R.r R.dc) (n4 : @Ne Nat R.dr R.c) (n5 : @Ne Nat R.dr R.dc) (n6 : @Ne Nat R.c R.dc)
  {ex : Led} (hE : OffX R [] ex)
include hl n1 n2 n3 n4 n5 n6 hE
theorem choice_two {d n : Nat} {mid mid2 : List Nat} {T T2 : Tr} (h20 : 20 ≤ n) (hB : Reads w R ex d mid T n) (hB2 : Reads2 w R ex d mid2 T2 n) : Chooses w R ex d (mid ++ 124 :: mid2) (.alt T T2) (n + 2):=by
  intro k t5 i t4 rest h0 hk ha
  replace ha : At R.tx i (mid ++ 124 :: (mid2 ++ 41 :: rest)):=by simpa using ha
  obtain ⟨x1,x2,x3,x4,_⟩:=id hE
  replace x1 : Off ex R.r:=x1;replace x2 : Off ex R.dr:=x2;replace x3 : Off ex R.c:=x3;replace x4 : Off ex R.dc:=x4
  refine' sat_of (binds:=[(Str.ofString "self",.ref R.r)]) ?ho ?hcd ?hn ?hbind ?hloc ?h ?hcell ?hco ?hgen ?hk
  (case ho=>k_is);(case hcd=>k_is);(case hn=>first | decide | lia);(case hbind=>intro s X;first | exact BindsTo.of_eq rfl | exact binds_K X rfl (by k_is) rfl rfl rfl);(case hloc=>exact locs rfl)
  (case hcell=>decide);(case hco=>rfl);(case hgen=>rfl);(case hk=>rfl)
  intros
  repeat' (first|(k_unfold;(try dsimp only))|((with_reducible show wpAny _ _ (call _ _) _ _ _);first|(k_here;(with_reducible show wpAny _ _ (call (Value.ref 801) _) _ _ _);k_dflt (refine' no_implicit_lambda% (use_rd (‹Reads _ _ _ _ _ _ _› _ _ _ _ _ ?h0 ?hd ?ha ?hst) ?hs ?U1 ?U2 ?B ?F ?X ?N ?T ?kk ?dd ?uu ?_);(case ha=>assumption);tb_rel;(case hs=>lcg_sub);(case U1=>k_updF);(case U2=>(intro qo';k_updF));(case h0=>lia);(case hd=>lia);(case hst=>first | assumption | exact Or.inl rfl | exact Or.inr (Or.inl rfl)));intro qr' qtl' qt5' qt4' qh' qtk' qF' qN' qhV' qhO';(have ha':=At.skip _ ‹At _ _ (_ ++ _)›);(try simp only [List.cons_append,List.nil_append,List.append_assoc] at qN');(try k_sweep))|(k_here;(with_reducible show wpAny _ _ (call (Value.ref 801) _) _ _ _);k_dflt (refine' no_implicit_lambda% (use_rd (Reads2.of ‹Reads2 _ _ _ _ _ _ _› _ _ _ _ _ ?h0 ?hd ?ha ?hst) ?hs ?U1 ?U2 ?B ?F ?X ?N ?T ?kk ?dd ?uu ?_);(case ha=>assumption);tb_rel;(case hs=>lcg_sub);(case U1=>k_updF);(case U2=>(intro qo';k_updF));(case h0=>lia);(case hd=>lia);(case hst=>first | assumption | exact Or.inl rfl | exact Or.inr (Or.inl rfl)));intro qr' qtl' qt5' qt4' qh' qtk' qF' qN' qhV' qhO';(have ha':=At.skip _ ‹At _ _ (_ ++ _)›);(try simp only [List.cons_append,List.nil_append,List.append_assoc] at qN');(try k_sweep))|(k_here;(with_reducible show wpAny _ _ (call (Value.ref 572) _) _ _ _);k_dflt (refine' no_implicit_lambda% (new_alt ?B ?F ?X ?N ?T ?kk ?dd ?uu ?_);tb_rel);intro qx' qd' qhh0 qhh1 quu0 quu1 qh' qtk' qF' qN' ql1 ql2;(try k_sweep))|(k_here;(with_reducible show wpAny _ _ (call (Value.ref 148) _) _ _ _);k_dflt (refine' no_implicit_lambda% (use_cur_bool (skip_yes _ _ _ _ _ _ _ _ _ ?hl ?ha _ _ ?hy ?hne) ?hs ?U ?hne ?B ?F ?X ?N ?T ?kk ?dd ?uu ?_);(case hl | ha=>assumption);(case hy=>first | assumption | rfl);tb_rel;(case hs=>first | assumption|(repeat' (first | exact trivial | k_mem | refine no_implicit_lambda% (And.intro ?_ ?_))));(case U=>k_updF);(case hne=>first | assumption | lia));intro qt qh' qtk' qF' qN';(have ha':=At.next ‹At _ _ (_ :: _)›);(try k_sweep))|(k_here;(with_reducible show wpAny _ _ (call (Value.ref 148) _) _ _ _);k_dflt (refine' no_implicit_lambda% (use_bool (skip_no _ _ _ _ _ _ _ _ _ ?hl ?ha _ _ ?hy ?hy2) ?hs ?B ?F ?X ?N ?T ?kk ?dd ?uu ?_);(case hl | ha=>assumption);(case hy | hy2=>first | assumption | rfl);tb_rel;(case hs=>first | assumption|(repeat' (first | exact trivial | k_mem | refine no_implicit_lambda% (And.intro ?_ ?_)))));intro qh' qtk' qF' qN';(try k_sweep)))|(k_here;(with_reducible show wpAny _ _ (exec (Stmt.While _ _ _ _) _) _ _ _);k_dflt (refine no_implicit_lambda% (whl_start 100 ?_)))|((with_reducible show wpAny _ _ (eval _ _) _ _ _);first|(k_here;(with_reducible show wpAny _ _ (eval (PySem.Expr.Call (PySem.Expr.Attribute (PySem.Expr.Name _ _) _ _) [] [] _) _) _ _ _);k_dflt (refine' no_implicit_lambda% (call_nm0 ?M ?F ?X ?N ?hm ?m1 ?m2 ?hl ?_);(case F=>k_asm);(case X=>k_in);(case N=>k_asm);(case hm=>exact rfl);(case m1 | m2=>k_mem);(case hl=>exact rfl);(case M=>first | exact mw8 _ | exact mw9 _ | exact mw10 _ | exact mw11 _ | exact mw12 _ | exact mw1 _ | exact mw2 _ | exact mw4 _ | exact mw5 _)))|(k_here;(with_reducible show wpAny _ _ (eval (PySem.Expr.Call (PySem.Expr.Attribute (PySem.Expr.Attribute (PySem.Expr.Name _ _) _ _) _ _) [PySem.Expr.Constant (Const.str _) _ _] [] _) _) _ _ _);k_dflt (refine' no_implicit_lambda% (call_at1 ?O ?M ?F ?X ?N ?hm ?m1 ?m2 ?hl ?m3 ?m4 ?hl2 ?_);(case F=>k_asm);(case X=>k_in);(case N=>k_asm);(case hm=>exact rfl);(case m1 | m2=>k_mem);(case hl=>exact rfl);(case m3 | m4=>k_mem);(case hl2=>exact rfl);(case O=>exact ow1 _);(case M=>first | exact mw5 _ | exact mw2 _ | exact mw4 _ | exact mw1 _ | exact mw6 _ | exact mw12 _))))|walk1|(refine StD.nx (by with_reducible assumption) _ ?_)|(refine StD.rt (by with_reducible assumption) _ _ ?_)|(refine Ups.up (by with_reducible assumption) _ _ ?_;(try dsimp only))|(k_end;wrow_close)|dsimp only|(leave1;try dsimp only))
  rename News _ _ _ _=>N9
  refine fin2 (by assumption) N9 (by simp;lia) rfl (by assumption) (by assumption) ?o9 ⟨_,_,_,_,_,_,_,_,rfl,.head _,.tail _ (.head _),NodeIn.up ?s1 ‹NodeIn _ T _›,NodeIn.up ?s2 ‹NodeIn _ T2 _›⟩
  case o9=>lcg_off
  case s1=>lcg_sub
  case s2=>lcg_sub
theorem single_par {d n : Nat} {mid : List Nat} {T : Tr} (h20 : 20 ≤ n) (hC : Chooses w R ex d mid T n) : Sing w R ex (d + 1) (40 :: (mid ++ [41])) T (n + 2):=by
  intro k t5 i t4 rest h0 hk ha
  replace ha : At R.tx i (40 :: (mid ++ 41 :: rest)):=by simpa using ha
  have hk' : k + (d : Int) + 1 ≤ 20:=by lia
  obtain ⟨x1,x2,x3,x4,_⟩:=id hE
  replace x1 : Off ex R.r:=x1;replace x2 : Off ex R.dr:=x2;replace x3 : Off ex R.c:=x3;replace x4 : Off ex R.dc:=x4
  refine' sat_of (binds:=[(Str.ofString "self",.ref R.r)]) ?ho ?hcd ?hn ?hbind ?hloc ?h ?hcell ?hco ?hgen ?hk
  (case ho=>k_is);(case hcd=>k_is);(case hn=>first | decide | lia);(case hbind=>intro s X;first | exact BindsTo.of_eq rfl | exact binds_K X rfl (by k_is) rfl rfl rfl);(case hloc=>exact locs rfl)
  (case hcell=>decide);(case hco=>rfl);(case hgen=>rfl);(case hk=>rfl)
  intros
  repeat' (first|(k_unfold;(try dsimp only))|(k_here;(with_reducible show wpAny _ _ (compareOp CmpOp.Eq (Value.int _ _) (Value.int _ _)) _ _ _);refine no_implicit_lambda% (eq_int_f (by lia) ?_))|((with_reducible show wpAny _ _ (call _ _) _ _ _);first|(k_here;(with_reducible show wpAny _ _ (call (Value.ref 794) _) _ _ _);k_dflt (refine' no_implicit_lambda% (use_rd (‹Chooses _ _ _ _ _ _ _› _ _ _ _ _ ?h0 ?hd ?ha) ?hs ?U1 ?U2 ?B ?F ?X ?N ?T ?kk ?dd ?uu ?_);(case ha=>assumption);tb_rel;(case hs=>lcg_sub);(case U1=>k_updF);(case U2=>(intro qo';k_updF));(case h0=>lia);(case hd=>lia));intro qr' qtl' qt5' qt4' qh' qtk' qF' qN' qhV' qhO';(have ha':=At.skip _ ‹At _ _ (_ ++ _)›);(try simp only [List.cons_append,List.nil_append,List.append_assoc] at qN');(try k_sweep))|(k_here;(with_reducible show wpAny _ _ (call (Value.ref 148) _) _ _ _);k_dflt (refine' no_implicit_lambda% (use_cur_bool (skip_yes _ _ _ _ _ _ _ _ _ ?hl ?ha _ _ ?hy ?hne) ?hs ?U ?hne ?B ?F ?X ?N ?T ?kk ?dd ?uu ?_);(case hl | ha=>assumption);(case hy=>first | assumption | rfl);tb_rel;(case hs=>first | assumption|(repeat' (first | exact trivial | k_mem | refine no_implicit_lambda% (And.intro ?_ ?_))));(case U=>k_updF);(case hne=>first | assumption | lia));intro qt qh' qtk' qF' qN';(have ha':=At.next ‹At _ _ (_ :: _)›);(try k_sweep))|(k_here;(with_reducible show wpAny _ _ (call (Value.ref 141) _) _ _ _);k_dflt (refine' no_implicit_lambda% (use_cur_str (take_at _ _ _ _ _ _ _ _ _ ?hl ?ha ?hne) ?hs ?U ?hne rfl ?B ?F ?X ?N ?T ?kk ?dd ?uu ?_);(case hl | ha=>assumption);tb_rel;(case hs=>first | assumption|(repeat' (first | exact trivial | k_mem | refine no_implicit_lambda% (And.intro ?_ ?_))));(case U=>k_updF);(case hne=>first | assumption | lia));intro qt1 qt2 qh' qtk' qF' qN';(have ha':=At.next ‹At _ _ (_ :: _)›);(try k_sweep)))|((with_reducible show wpAny _ _ (eval _ _) _ _ _);first|(k_here;(with_reducible show wpAny _ _ (eval (PySem.Expr.Call (PySem.Expr.Attribute (PySem.Expr.Name _ _) _ _) [] [] _) _) _ _ _);k_dflt (refine' no_implicit_lambda% (call_nm0 ?M ?F ?X ?N ?hm ?m1 ?m2 ?hl ?_);(case F=>k_asm);(case X=>k_in);(case N=>k_asm);(case hm=>exact rfl);(case m1 | m2=>k_mem);(case hl=>exact rfl);(case M=>first | exact mw8 _ | exact mw9 _ | exact mw10 _ | exact mw11 _ | exact mw12 _ | exact mw1 _ | exact mw2 _ | exact mw4 _ | exact mw5 _)))|(k_here;(with_reducible show wpAny _ _ (eval (PySem.Expr.Call (PySem.Expr.Attribute (PySem.Expr.Attribute (PySem.Expr.Name _ _) _ _) _ _) [PySem.Expr.Constant (Const.str _) _ _] [] _) _) _ _ _);k_dflt (refine' no_implicit_lambda% (call_at1 ?O ?M ?F ?X ?N ?hm ?m1 ?m2 ?hl ?m3 ?m4 ?hl2 ?_);(case F=>k_asm);(case X=>k_in);(case N=>k_asm);(case hm=>exact rfl);(case m1 | m2=>k_mem);(case hl=>exact rfl);(case m3 | m4=>k_mem);(case hl2=>exact rfl);(case O=>exact ow1 _);(case M=>first | exact mw5 _ | exact mw2 _ | exact mw4 _ | exact mw1 _ | exact mw6 _ | exact mw12 _)))|(k_here;(with_reducible show wpAny _ _ (eval (PySem.Expr.Call (PySem.Expr.Attribute (PySem.Expr.Attribute (PySem.Expr.Name _ _) _ _) _ _) [] [] _) _) _ _ _);k_dflt (refine' no_implicit_lambda% (call_at0 ?O ?M ?F ?X ?N ?hm ?m1 ?m2 ?hl ?m3 ?m4 ?hl2 ?_);(case F=>k_asm);(case X=>k_in);(case N=>k_asm);(case hm=>exact rfl);(case m1 | m2=>k_mem);(case hl=>exact rfl);(case m3 | m4=>k_mem);(case hl2=>exact rfl);(case O=>exact ow1 _);(case M=>first | exact mw5 _ | exact mw2 _ | exact mw4 _ | exact mw1 _ | exact mw6 _ | exact mw12 _)))|(k_here;(with_reducible show wpAny _ _ (eval (PySem.Expr.Attribute (PySem.Expr.Name _ _) _ _) _) _ _ _);k_dflt (refine' no_implicit_lambda% (at_own ?O ?F ?X ?N ?hm ?m1 ?m2 ?hl ?hv ?_);(case F=>k_asm);(case X=>k_in);(case N=>k_asm);(case hm=>exact rfl);(case m1 | m2=>k_mem);(case hl=>exact rfl);(case hv=>k_handed);(case O=>first | exact ow1 _ | exact ow5 _ | exact ow6 _ | exact ow2 _ | exact ow3 _ | exact ow4 _ | exact ⟨by k_is,by k_is,_,by k_is,by k_is⟩))))|walk1|(refine StD.nx (by with_reducible assumption) _ ?_)|(refine StD.rt (by with_reducible assumption) _ _ ?_)|(refine Ups.up (by with_reducible assumption) _ _ ?_;(try dsimp only))|(k_end;wrow_close)|dsimp only|(leave1;try dsimp only))
  rename News _ _ _ _=>N9
  refine fin0 (by assumption) N9 (by simp;lia) (by lia) ?o9 ‹NodeIn _ T _›
  lcg_off
theorem choice_top {d n : Nat} {mid : List Nat} {T : Tr} (hB : Reads w R ex d mid T n) (k : Int) (t5 : Tok) (i : Int) (t4 : Tok) {rest : List Nat} (h0 : 0 ≤ k) (hk : k + (d : Int) ≤ 20) (ha : At R.tx i (mid ++ rest)) (hst : StopAt R.isP k rest) (hno : (hdS rest == Str.ofString "|") = false) :
    Sat w 794 (n + 10) [.ref R.r] (rdrT R k t5 i t4 ex) (RP R k (i + mid.length) ex (fun tl r=>NodeIn tl T r)):=by
  obtain ⟨x1,x2,x3,x4,_⟩:=id hE
  replace x1 : Off ex R.r:=x1;replace x2 : Off ex R.dr:=x2;replace x3 : Off ex R.c:=x3;replace x4 : Off ex R.dc:=x4
  refine' sat_of (binds:=[(Str.ofString "self",.ref R.r)]) ?ho ?hcd ?hn ?hbind ?hloc ?h ?hcell ?hco ?hgen ?hk
  (case ho=>k_is);(case hcd=>k_is);(case hn=>first | decide | lia);(case hbind=>intro s X;first | exact BindsTo.of_eq rfl | exact binds_K X rfl (by k_is) rfl rfl rfl);(case hloc=>exact locs rfl)
  (case hcell=>decide);(case hco=>rfl);(case hgen=>rfl);(case hk=>rfl)
  intros
  repeat' (first|(k_unfold;(try dsimp only))|((with_reducible show wpAny _ _ (call _ _) _ _ _);first|(k_here;(with_reducible show wpAny _ _ (call (Value.ref 801) _) _ _ _);k_dflt (refine' no_implicit_lambda% (use_rd (‹Reads _ _ _ _ _ _ _› _ _ _ _ _ ?h0 ?hd ?ha ?hst) ?hs ?U1 ?U2 ?B ?F ?X ?N ?T ?kk ?dd ?uu ?_);(case ha=>assumption);tb_rel;(case hs=>lcg_sub);(case U1=>k_updF);(case U2=>(intro qo';k_updF));(case h0=>lia);(case hd=>lia);(case hst=>first | assumption | exact Or.inl rfl | exact Or.inr (Or.inl rfl)));intro qr' qtl' qt5' qt4' qh' qtk' qF' qN' qhV' qhO';(have ha':=At.skip _ ‹At _ _ (_ ++ _)›);(try simp only [List.cons_append,List.nil_append,List.append_assoc] at qN');(try k_sweep))|(k_here;(with_reducible show wpAny _ _ (call (Value.ref 148) _) _ _ _);k_dflt (refine' no_implicit_lambda% (use_bool (skip_not _ _ _ _ _ _ _ _ _ ?hl ?ha _ _ ?hy ?hn) ?hs ?B ?F ?X ?N ?T ?kk ?dd ?uu ?_);(case hl | ha=>assumption);(case hy | hn=>first | assumption | rfl);tb_rel;(case hs=>first | assumption|(repeat' (first | exact trivial | k_mem | refine no_implicit_lambda% (And.intro ?_ ?_)))));intro qh' qtk' qF' qN';(try k_sweep)))|(k_here;(with_reducible show wpAny _ _ (exec (Stmt.While _ _ _ _) _) _ _ _);k_dflt (refine no_implicit_lambda% (whl_start 100 ?_)))|((with_reducible show wpAny _ _ (eval _ _) _ _ _);first|(k_here;(with_reducible show wpAny _ _ (eval (PySem.Expr.Call (PySem.Expr.Attribute (PySem.Expr.Name _ _) _ _) [] [] _) _) _ _ _);k_dflt (refine' no_implicit_lambda% (call_nm0 ?M ?F ?X ?N ?hm ?m1 ?m2 ?hl ?_);(case F=>k_asm);(case X=>k_in);(case N=>k_asm);(case hm=>exact rfl);(case m1 | m2=>k_mem);(case hl=>exact rfl);(case M=>first | exact mw8 _ | exact mw9 _ | exact mw10 _ | exact mw11 _ | exact mw12 _ | exact mw1 _ | exact mw2 _ | exact mw4 _ | exact mw5 _)))|(k_here;(with_reducible show wpAny _ _ (eval (PySem.Expr.Call (PySem.Expr.Attribute (PySem.Expr.Attribute (PySem.Expr.Name _ _) _ _) _ _) [PySem.Expr.Constant (Const.str _) _ _] [] _) _) _ _ _);k_dflt (refine' no_implicit_lambda% (call_at1 ?O ?M ?F ?X ?N ?hm ?m1 ?m2 ?hl ?m3 ?m4 ?hl2 ?_);(case F=>k_asm);(case X=>k_in);(case N=>k_asm);(case hm=>exact rfl);(case m1 | m2=>k_mem);(case hl=>exact rfl);(case m3 | m4=>k_mem);(case hl2=>exact rfl);(case O=>exact ow1 _);(case M=>first | exact mw5 _ | exact mw2 _ | exact mw4 _ | exact mw1 _ | exact mw6 _ | exact mw12 _))))|walk1|(refine StD.nx (by with_reducible assumption) _ ?_)|(refine StD.rt (by with_reducible assumption) _ _ ?_)|(refine Ups.up (by with_reducible assumption) _ _ ?_;(try dsimp only))|(k_end;wrow_close)|dsimp only|(leave1;try dsimp only))
  rename News _ _ _ _=>N9
  refine fin0 (by assumption) N9 rfl rfl ?o9 ‹NodeIn _ T _›
  lcg_off
end
set_option maxHeartbeats 2000000
def PJ (x : Str) (m : Str → Option Value) (news : Led) (m' : Str → Option Value) (n' : Led) : Prop:=n' = news ∧ ∃ c,m' = fun z=>if z = x then c else m z
theorem pass_next {x : Str} {m : Str → Option Value} {news : Led} {h₀ h' : Heap} {L I : Addr} {oI : Obj} {s₁ : Shared} {tk : Nat} {Q : Flow → Shared → Prop} {v : Value} {c : Option Value}
    (F : Fr h₀ L h' (fun z=>if z = x then some v else if z = x then c else m z)) (N : News h₀ L h' ((I,oI) :: news)) (off : ∀ p ∈ news,p.1 ≠ I) : TurnEnd h₀ L I oI (PJ x m news) s₁ Q .next { s₁ with heap:=h',toks:=tk } :=
  ⟨h',tk,_,news,rfl,F,N,off,rfl,some v,funext fun z=>by by_cases h : z = x <;> simp [h]⟩
theorem str_pass {w : World} {A : Around} {E : Value → Shared → Prop} {s : Shared} {h₀ : Heap} {m : Str → Option Value} {env : Env} {news : Led} {body : List Stmt} {Q : Flow → Shared → Prop} {x : Str} {px : Pos} {y : Str} {t : Tok} (ha : y.cps.all (· < 128) = true) (hh : A.handled = none)
    (F : Fr h₀ env.locals s.heap m) (N : News h₀ env.locals s.heap news)
    (step : ∀ i v c h₁ tk₁ (I : Addr) oI,SignAt y i v → Fr h₀ env.locals h₁ (fun z=>if z = x then c else m z) → News h₀ env.locals h₁ ((I,oI) :: news) → (∀ p ∈ news,p.1 ≠ I) →
      wpAny (model PR w) A (assign (.Name x px) env v) (fun _ s₃=>wpAny (model PR w) A (execs body env) (TurnEnd h₀ env.locals I oI (PJ x m news) { s with heap:=h₁,toks:=tk₁ } Q) E s₃) E { s with heap:=h₁,toks:=tk₁ })
    (fin : ∀ h' tk c,Fr h₀ env.locals h' (fun z=>if z = x then c else m z) → News h₀ env.locals h' news → Q .next { s with heap:=h',toks:=tk }) :
    wpAny (model PR w) A (pyIter (.str y t)) (fun it s₂=>TurnsAt PR w A h₀ env (.Name x px) body Q E it s₂) E s :=
  str_turns ha hh F N (fun _=>PJ x m news) ⟨rfl,m x,funext fun z=>by by_cases h : z = x <;> simp [h]⟩
    (fun i v m₁ news₁ h₁ tk₁ I oI _ hs J F₁ N₁ off=>by
      obtain ⟨rfl,c,rfl⟩:=J
      exact step i v c h₁ tk₁ I oI hs F₁ N₁ off)
    (fun h' tk m' news' F' N' J=>by
      obtain ⟨rfl,c,rfl⟩:=J
      exact fin h' tk c F' N')
section
variable (w : World) (R : RK) (k : Int) (t5 : Tok) (i : Int) (t4 : Tok) (hl : R.tx.length ≤ 1000) {rest : List Nat}
  (n1 : @Ne Nat R.r R.dr) (n2 : @Ne Nat R.r R.c) (n3 : @Ne Nat R.r R.dc) (n4 : @Ne Nat R.dr R.c) (n5 : @Ne Nat R.dr R.dc) (n6 : @Ne Nat R.c R.dc)
include hl n1 n2 n3 n4 n5 n6
theorem quoted0x (j : Int) (u : Tok) (hj : i = j + 1) (hb : At R.tx j (34 :: 34 :: rest)) :
    Sat w 841 10 [.ref R.r,.int j u] (rdr R k t5 i t4) (RP R k (i + 1) [] (fun tl r=>NodeIn tl .empty r)):=by
  have ha : At R.tx i (34 :: rest):=hj ▸ hb.next
  have hsl : Txt.slice R.tx (some j) (some (i + 1)) = Str.ofString "\"\"":=by
    have:=At.sub [34,34] hb
    rw [show j + (([34,34] : List Nat).length : Int) = i + 1 by simp;lia] at this
    rw [this];decide +kernel
  have hraw : (Builtin.Str.occurrences (Txt.slice R.tx (some j) (some (i + 1))) (Str.ofString "\n") 0 (Txt.slice R.tx (some j) (some (i + 1))).length 1).isEmpty = true:=by rw [hsl];decide +kernel
  refine' sat_of (binds:=[(Str.ofString "self",.ref R.r),(Str.ofString "begun",.int j u)]) ?ho ?hcd ?hn ?hbind ?hloc ?h ?hcell ?hco ?hgen ?hk
  (case ho=>k_is);(case hcd=>k_is);(case hn=>first | decide | lia);(case hbind=>intro s X;first | exact BindsTo.of_eq rfl | exact binds_K X rfl (by k_is) rfl rfl rfl);(case hloc=>exact locs rfl)
  (case hcell=>decide);(case hco=>rfl);(case hgen=>rfl);(case hk=>rfl)
  intros
  repeat' (first|(k_unfold;(try dsimp only))|(k_here;(with_reducible show wpAny _ _ (exec (Stmt.For (PySem.Expr.Name _ _) (PySem.Expr.Name _ _) _ _ _) _) _ _ _);(rename Fr _ _ _ _=>qlF');(with_unfolding_all refine' no_implicit_lambda% (For_turns qlF' ?_);k_whole))|(k_here;(with_reducible show wpAny _ _ (compareOp CmpOp.In (Value.str _ _) (Value.str _ _)) _ _ _);first | refine no_implicit_lambda% (in_b ‹(Builtin.Str.occurrences _ _ _ _ _).isEmpty = _› ?_)|refine no_implicit_lambda% (in_b (b:=true) (by decide +kernel) ?_)|refine no_implicit_lambda% (in_b (b:=false) (by decide +kernel) ?_)|refine no_implicit_lambda% (in_b rfl ?_))|(k_here;(with_reducible show wpAny _ _ (call (Value.ref 219) _) _ _ _);k_dflt (refine' no_implicit_lambda% (use_cur_str (quo0_at _ _ _ _ _ _ _ _ _ ?hl _ ?hne ?ha) ?hs ?U ?hne rfl ?B ?F ?X ?N ?T ?kk ?dd ?uu ?_);(case hl | ha=>assumption);tb_rel;(case hs=>first | assumption|(repeat' (first | exact trivial | k_mem | refine no_implicit_lambda% (And.intro ?_ ?_))));(case U=>k_updF);(case hne=>first | assumption | lia));intro qt1 qt2 qh' qtk' qF' qN';(have ha':=At.next ‹At _ _ (_ :: _)›);(try k_sweep))|(k_here;(with_reducible show wpAny _ _ (eval (PySem.Expr.Attribute (PySem.Expr.Name _ _) _ _) _) _ _ _);k_dflt (refine' no_implicit_lambda% (at_own ?O ?F ?X ?N ?hm ?m1 ?m2 ?hl ?hv ?_);(case F=>k_asm);(case X=>k_in);(case N=>k_asm);(case hm=>exact rfl);(case m1 | m2=>k_mem);(case hl=>exact rfl);(case hv=>k_handed);(case O=>first | exact ow1 _ | exact ow5 _ | exact ow6 _ | exact ow2 _ | exact ow3 _ | exact ow4 _ | exact ⟨by k_is,by k_is,_,by k_is,by k_is⟩)))|walk1|(refine StD.nx (by with_reducible assumption) _ ?_)|(refine StD.rt (by with_reducible assumption) _ _ ?_)|(refine Ups.up (by with_reducible assumption) _ _ ?_;(try dsimp only))|(k_end;wrow_close)|dsimp only|(leave1;try dsimp only))
  refine str_pass (by decide +kernel) (by rfl) (by assumption) (by assumption) ?step ?fin
  case step =>
    rintro i v c h₁ tk₁ I oI ⟨c',u',hc,_⟩
    exact absurd hc (by rw [show (Str.ofString "").cps = #[] by decide +kernel];simp)
  case fin =>
    intro h' tk' c F' N'
    repeat' (first|(k_unfold;(try dsimp only))|(k_here;(with_reducible show wpAny _ _ (call (Value.ref 689) _) _ _ _);k_dflt (refine' no_implicit_lambda% (use_ron (cat0 _ _ _) ?hs ?B ?F ?X ?N ?T ?kk ?dd ?uu ?_);tb_rel;(case hs=>lcg_sub));intro qr' qtl' qh' qtk' qF' qN' qhV' qhO';(try simp only [List.cons_append,List.nil_append,List.append_assoc] at qN');(try k_sweep))|((fail_if_success (with_reducible show wpAny _ _ _ _ _ _));(k_here;k_dflt (first|(refine SrcS.of (n:=1) (by rfl) (by k_asm) (by k_asm) (by decide +kernel) (by decide +kernel) (by first | size_fits | exact Nat.le_of_ble_eq_true rfl) ?_;intro qg')|(refine SrcS.of (n:=1) (by rfl) (by k_asm) (by k_asm) (all_one (by assumption)) (by rfl) (by first | size_fits | exact Nat.le_of_ble_eq_true rfl) ?_;intro qg')|(refine SrcS.of (n:=2) (by rfl) (by k_asm) (by k_asm) (by decide +kernel) (by decide +kernel) (by first | size_fits | exact Nat.le_of_ble_eq_true rfl) ?_;intro qg')|(refine SrcS.of (n:=0) (by rfl) (by k_asm) (by k_asm) (by decide +kernel) (by decide +kernel) (by first | size_fits | exact Nat.le_of_ble_eq_true rfl) ?_;intro qg'))))|(k_here;(with_reducible show wpAny _ _ (eval (Expr.ListComp _ [⟨_,Expr.Name _ _,_,_⟩] _ _) _) _ _ _);k_dflt (refine no_implicit_lambda% (ListComp_S (F₀:=by k_asm) (by with_unfolding_all rfl) (by decide) (by rfl) (by decide) (by rfl) ?_)))|walk1|(refine StD.nx (by with_reducible assumption) _ ?_)|(refine StD.rt (by with_reducible assumption) _ _ ?_)|(refine Ups.up (by with_reducible assumption) _ _ ?_;(try dsimp only))|(k_end;wrow_close)|dsimp only|(leave1;try dsimp only))
    rename News _ _ _ _=>N9
    refine fin0d (by assumption) N9 rfl rfl ?o9 (by assumption)
    lcg_off
end
set_option maxHeartbeats 2000000
theorem of_a (w : World) (u : Tok) : Sat w 311 8 [.str (Str.ofString "a") u] [] (fun r own'=>∃ cs,r = .ref cs ∧ CsIn own' cs 97):=by
  have:=of1 w 97 u (by decide)
  rw [show (⟨#[97]⟩ : Str) = Str.ofString "a" by decide +kernel] at this
  exact this
theorem of_b (w : World) (u : Tok) : Sat w 311 8 [.str (Str.ofString "b") u] [] (fun r own'=>∃ cs,r = .ref cs ∧ CsIn own' cs 98):=by
  have:=of1 w 98 u (by decide)
  rw [show (⟨#[98]⟩ : Str) = Str.ofString "b" by decide +kernel] at this
  exact this
theorem of_c (w : World) (u : Tok) : Sat w 311 8 [.str (Str.ofString "c") u] [] (fun r own'=>∃ cs,r = .ref cs ∧ CsIn own' cs 99):=by
  have:=of1 w 99 u (by decide)
  rw [show (⟨#[99]⟩ : Str) = Str.ofString "c" by decide +kernel] at this
  exact this
theorem of_x (w : World) (u : Tok) : Sat w 311 8 [.str (Str.ofString "x") u] [] (fun r own'=>∃ cs,r = .ref cs ∧ CsIn own' cs 120):=by
  have:=of1 w 120 u (by decide)
  rw [show (⟨#[120]⟩ : Str) = Str.ofString "x" by decide +kernel] at this
  exact this
theorem off3_app {I C D : Addr} : ∀ {a b : Led},Off3 I C D (a ++ b) ↔ Off3 I C D a ∧ Off3 I C D b
  | [],b=>by simp [Off3]
  | p :: a,b=>by simp only [List.cons_append,Off3,off3_app,and_assoc]
theorem off3_of {I C D : Addr} {a : Led} (h1 : Off a I) (h2 : Off a C) (h3 : Off a D) : Off3 I C D a:=Off3.of fun p hp=>⟨h1 p hp,h2 p hp,h3 p hp⟩
theorem off3_1 {I C D : Addr} {a : Led} (h : Off3 I C D a) : Off a I ∧ Off a C ∧ Off a D:=⟨fun p hp=>(h.mem p hp).1,fun p hp=>(h.mem p hp).2.1,fun p hp=>(h.mem p hp).2.2⟩
theorem comp_end2 {h₀ : Heap} {L I C D x d : Addr} {m : Str → Option Value} {s₁ : Shared} {oI oC oD o1 o2 : Obj} {S : List (Addr × Obj) → Prop} {rest : Value → List (Addr × Obj) → Prop} {y : Value} {h' : Heap} {tk : Nat} {tl : Led}
    (F : Fr h₀ L h' m) (N : News h₀ L h' ((x,o1) :: (d,o2) :: (I,oI) :: (C,oC) :: (D,oD) :: tl)) (hx : @Ne Nat x I ∧ @Ne Nat x C ∧ @Ne Nat x D) (hd : @Ne Nat d I ∧ @Ne Nat d C ∧ @Ne Nat d D) (off : Off3 I C D tl) (hS : S ((x,o1) :: (d,o2) :: tl)) (r : rest y ((x,o1) :: (d,o2) :: tl)) :
    CompEnd h₀ L m s₁ I oI C oC D oD S rest y { s₁ with heap:=h',toks:=tk } :=
  CompEnd.intro F N ((x,o1) :: (d,o2) :: tl) (fun p hp=>by
    simp only [List.mem_cons] at hp ⊢
    rcases hp with h | h | h | h | h | h <;> simp [h]) ⟨hx,hd,off⟩ hS r
theorem fin4 {R : RK} {k p i' : Int} {t5 t4' : Tok} {tl : Led} {V : Led → Value → Prop} {g h' : Heap} {s : Shared} {L' x1 d1 x2 d2 : Addr} {q : Addr × Obj} {o1 p1 o2 p2 : Obj} {m' : Str → Option Value} {v : Value} {tk' : Nat}
    (F : Fr g L' h' m') (N : News g L' h' (q :: (x2,o2) :: (d2,p2) :: (x1,o1) :: (d1,p1) :: rdrT R k t5 p t4' tl)) (e : p = i') (h1 : AllLt x1 (rdrT R 0 0 0 0 [])) (h2 : AllLt d1 (rdrT R 0 0 0 0 [])) (h3 : AllLt x2 (rdrT R 0 0 0 0 [])) (h4 : AllLt d2 (rdrT R 0 0 0 0 [])) (hO : OffX R [] tl) (hV : V ((x2,o2) :: (d2,p2) :: (x1,o1) :: (d1,p1) :: tl) v) :
    Done g s (RP R k i' [] V) v { s with heap:=h',toks:=tk' }:=by
  subst e
  refine done_s F N (own':=rdrT R k t5 p t4' ([] ++ ((x2,o2) :: (d2,p2) :: (x1,o1) :: (d1,p1) :: tl))) (fun q' hq=>.tail _ (mem_mid (P:=rdrT R k t5 p t4' []) (ex:=[]) (N:=[(x2,o2),(d2,p2),(x1,o1),(d1,p1)]) (tl:=tl) hq)) ⟨_,_,_,rfl,hV,offX_cons h3 (offX_cons h4 (offX_cons h1 (offX_cons h2 hO)))⟩
theorem allLt_m {R : RK} {d : Addr} {n : Led} {o1 o2 o3 o4 : Obj} (h : AllLt d n) (m1 : (R.r,o1) ∈ n) (m2 : (R.dr,o2) ∈ n) (m3 : (R.c,o3) ∈ n) (m4 : (R.dc,o4) ∈ n) : AllLt d (rdrT R 0 0 0 0 []):=⟨lt_lt h m1,lt_lt h m2,lt_lt h m3,lt_lt h m4,trivial⟩
theorem allLt_m2 {R : RK} {d x : Addr} {n : Led} {o1 o2 o3 o4 : Obj} (h2 : @LT.lt Nat _ d x) (h : AllLt d n) (m1 : (R.r,o1) ∈ n) (m2 : (R.dr,o2) ∈ n) (m3 : (R.c,o3) ∈ n) (m4 : (R.dc,o4) ∈ n) : AllLt x (rdrT R 0 0 0 0 []):=allLt_up (allLt_m h m1 m2 m3 m4) h2
section
variable (w : World) (R : RK) (k : Int) (t5 : Tok) (i : Int) (t4 : Tok) (hl : R.tx.length ≤ 1000) {rest : List Nat}
  (n1 : @Ne Nat R.r R.dr) (n2 : @Ne Nat R.r R.c) (n3 : @Ne Nat R.r R.dc) (n4 : @Ne Nat R.dr R.c) (n5 : @Ne Nat R.dr R.dc) (n6 : @Ne Nat R.c R.dc)
include hl n1 n2 n3 n4 n5 n6
theorem quoted2x (j : Int) (u : Tok) (hj : i = j + 1) (hb : At R.tx j (34 :: 97 :: 98 :: 34 :: rest)) :
    Sat w 841 12 [.ref R.r,.int j u] (rdr R k t5 i t4) (RP R k (i + 1 + 1 + 1) [] (fun tl r=>NodeIn tl (.cat (.chars 97) (.chars 98)) r)):=by
  have ha : At R.tx i (97 :: 98 :: 34 :: rest):=hj ▸ hb.next
  have hsl : Txt.slice R.tx (some j) (some (i + 1 + 1 + 1)) = Str.ofString "\"ab\"":=by
    have:=At.sub [34,97,98,34] hb
    rw [show j + (([34,97,98,34] : List Nat).length : Int) = i + 1 + 1 + 1 by simp;lia] at this
    rw [this];decide +kernel
  have hraw : (Builtin.Str.occurrences (Txt.slice R.tx (some j) (some (i + 1 + 1 + 1))) (Str.ofString "\n") 0 (Txt.slice R.tx (some j) (some (i + 1 + 1 + 1))).length 1).isEmpty = true:=by rw [hsl];decide +kernel
  refine' sat_of (binds:=[(Str.ofString "self",.ref R.r),(Str.ofString "begun",.int j u)]) ?ho ?hcd ?hn ?hbind ?hloc ?h ?hcell ?hco ?hgen ?hk
  (case ho=>k_is);(case hcd=>k_is);(case hn=>first | decide | lia);(case hbind=>intro s X;first | exact BindsTo.of_eq rfl | exact binds_K X rfl (by k_is) rfl rfl rfl);(case hloc=>exact locs rfl)
  (case hcell=>decide);(case hco=>rfl);(case hgen=>rfl);(case hk=>rfl)
  intros
  repeat' (first|(k_unfold;(try dsimp only))|(k_here;(with_reducible show wpAny _ _ (exec (Stmt.For (PySem.Expr.Name _ _) (PySem.Expr.Name _ _) _ _ _) _) _ _ _);(rename Fr _ _ _ _=>qlF');(with_unfolding_all refine' no_implicit_lambda% (For_turns qlF' ?_);k_whole))|(k_here;(with_reducible show wpAny _ _ (compareOp CmpOp.In (Value.str _ _) (Value.str _ _)) _ _ _);first | refine no_implicit_lambda% (in_b ‹(Builtin.Str.occurrences _ _ _ _ _).isEmpty = _› ?_)|refine no_implicit_lambda% (in_b (b:=true) (by decide +kernel) ?_)|refine no_implicit_lambda% (in_b (b:=false) (by decide +kernel) ?_)|refine no_implicit_lambda% (in_b rfl ?_))|((with_reducible show wpAny _ _ (call _ _) _ _ _);first|(k_here;(with_reducible show wpAny _ _ (call (Value.ref 219) _) _ _ _);k_dflt (refine' no_implicit_lambda% (use_cur_str (quo2_at _ _ _ _ _ _ _ _ _ ?hl _ ?hne ?ha) ?hs ?U ?hne rfl ?B ?F ?X ?N ?T ?kk ?dd ?uu ?_);(case hl | ha=>assumption);tb_rel;(case hs=>first | assumption|(repeat' (first | exact trivial | k_mem | refine no_implicit_lambda% (And.intro ?_ ?_))));(case U=>k_updF);(case hne=>first | assumption | lia));intro qt1 qt2 qh' qtk' qF' qN';(have ha':=At.next (At.next (At.next ‹At _ _ (_ :: _ :: _ :: _)›)));(try k_sweep))|(k_here;(with_reducible show wpAny _ _ (call (Value.ref 515) _) _ _ _);k_dflt (refine' no_implicit_lambda% (new_chars ?B ?F ?X ?N ?T ?kk ?dd ?uu ?_);tb_rel);intro qx' qd' qhh0 quu0 qh' qtk' qF' qN' ql1 ql2;(try k_sweep)))|(k_here;(with_reducible show wpAny _ _ (eval (PySem.Expr.Attribute (PySem.Expr.Name _ _) _ _) _) _ _ _);k_dflt (refine' no_implicit_lambda% (at_own ?O ?F ?X ?N ?hm ?m1 ?m2 ?hl ?hv ?_);(case F=>k_asm);(case X=>k_in);(case N=>k_asm);(case hm=>exact rfl);(case m1 | m2=>k_mem);(case hl=>exact rfl);(case hv=>k_handed);(case O=>first | exact ow1 _ | exact ow5 _ | exact ow6 _ | exact ow2 _ | exact ow3 _ | exact ow4 _ | exact ⟨by k_is,by k_is,_,by k_is,by k_is⟩)))|walk1|(refine StD.nx (by with_reducible assumption) _ ?_)|(refine StD.rt (by with_reducible assumption) _ _ ?_)|(refine Ups.up (by with_reducible assumption) _ _ ?_;(try dsimp only))|(k_end;wrow_close)|dsimp only|(leave1;try dsimp only))
  refine str_pass (by decide +kernel) (by rfl) (by assumption) (by assumption) ?step ?fin
  case step =>
    rintro i v c h₁ tk₁ I oI hs F₁ N₁ off
    refine gen fun G9 hG9=>?_
    obtain ⟨c',u',hc,rfl⟩:=hs
    have hi : i = 0 ∧ c' = 97 ∨ i = 1 ∧ c' = 98:=by
      rw [show (Str.ofString "ab").cps = #[97,98] by decide +kernel] at hc
      match i,hc with
      | 0,hc=>exact .inl ⟨rfl,(Option.some.inj hc).symm⟩
      | 1,hc=>exact .inr ⟨rfl,(Option.some.inj hc).symm⟩
      | n + 2,hc=>simp at hc
    rcases hi with ⟨rfl,rfl⟩ | ⟨rfl,rfl⟩
    · refine hG9 ?_;clear hG9
      as_aux_lemma =>
        repeat' (first|(k_unfold;(try dsimp only))|(k_here;(with_reducible show wpAny _ _ (call (Value.ref 515) _) _ _ _);k_dflt (refine' no_implicit_lambda% (new_chars ?B ?F ?X ?N ?T ?kk ?dd ?uu ?_);tb_rel);intro qx' qd' qhh0 quu0 qh' qtk' qF' qN' ql1 ql2;(try k_sweep))|walk1|(refine StD.nx (by with_reducible assumption) _ ?_)|(refine StD.rt (by with_reducible assumption) _ _ ?_)|(refine Ups.up (by with_reducible assumption) _ _ ?_;(try dsimp only))|(k_end;wrow_close)|dsimp only|(leave1;try dsimp only))
        exact pass_next (by assumption) (by assumption) off
    · refine hG9 ?_;clear hG9
      as_aux_lemma =>
        repeat' (first|(k_unfold;(try dsimp only))|(k_here;(with_reducible show wpAny _ _ (call (Value.ref 515) _) _ _ _);k_dflt (refine' no_implicit_lambda% (new_chars ?B ?F ?X ?N ?T ?kk ?dd ?uu ?_);tb_rel);intro qx' qd' qhh0 quu0 qh' qtk' qF' qN' ql1 ql2;(try k_sweep))|walk1|(refine StD.nx (by with_reducible assumption) _ ?_)|(refine StD.rt (by with_reducible assumption) _ _ ?_)|(refine Ups.up (by with_reducible assumption) _ _ ?_;(try dsimp only))|(k_end;wrow_close)|dsimp only|(leave1;try dsimp only))
        exact pass_next (by assumption) (by assumption) off
  case fin =>
    intro h' tk' c F' N'
    repeat' (first|(k_unfold;(try dsimp only))|((with_reducible show wpAny _ _ (call _ _) _ _ _);first|(k_here;(with_reducible show wpAny _ _ (call (Value.ref 311) _) _ _ _);k_dflt (refine' no_implicit_lambda% (use_newR (of_a _ _) ?B ?F ?X ?N ?T ?kk ?dd ?uu ?_);tb_rel);intro qcs' qtl' qh' qtk' qF' qN' qhC' qhO';(try simp only [List.cons_append,List.nil_append,List.append_assoc] at qN');(try k_sweep))|(k_here;(with_reducible show wpAny _ _ (call (Value.ref 515) _) _ _ _);k_dflt (refine' no_implicit_lambda% (new_chars ?B ?F ?X ?N ?T ?kk ?dd ?uu ?_);tb_rel);intro qx' qd' qhh0 quu0 qh' qtk' qF' qN' ql1 ql2;(try k_sweep)))|((fail_if_success (with_reducible show wpAny _ _ _ _ _ _));(with_unfolding_all (refine LCg.CompRest.succ ?_;intro qv' qI' qoI' qC' qoC' qD' qm' qh' qtk' qE' qhv' qhC' qhx' qF' qN' qoff' qne';(refine gen fun gG' gH'=>?_);(first | obtain ⟨qt9',qhv9'⟩:=sign_at qhv' sign_one | obtain ⟨qt9',qhv9'⟩:=sign_at (z:=Str.ofString "a") qhv' (by decide +kernel)|obtain ⟨qt9',qhv9'⟩:=sign_at (z:=Str.ofString "b") qhv' (by decide +kernel)|obtain ⟨qt9',qhv9'⟩:=sign_at (z:=Str.ofString "c") qhv' (by decide +kernel)|obtain ⟨qt9',qhv9'⟩:=sign_at (z:=Str.ofString "x") qhv' (by decide +kernel));subst qhv9';(try simp only [LCg.Off3,and_true] at qoff');(repeat (obtain ⟨⟨_,_,_⟩,qoff'⟩:=qoff'));(try (obtain ⟨_,_,_⟩:=qoff'));(try (obtain ⟨_,_,_⟩:=qne'));(refine gH' ?_);(clear gH'))))|((fail_if_success (with_reducible show wpAny _ _ _ _ _ _));(k_here;k_dflt (first|(refine SrcS.of (n:=1) (by rfl) (by k_asm) (by k_asm) (by decide +kernel) (by decide +kernel) (by first | size_fits | exact Nat.le_of_ble_eq_true rfl) ?_;intro qg')|(refine SrcS.of (n:=1) (by rfl) (by k_asm) (by k_asm) (all_one (by assumption)) (by rfl) (by first | size_fits | exact Nat.le_of_ble_eq_true rfl) ?_;intro qg')|(refine SrcS.of (n:=2) (by rfl) (by k_asm) (by k_asm) (by decide +kernel) (by decide +kernel) (by first | size_fits | exact Nat.le_of_ble_eq_true rfl) ?_;intro qg')|(refine SrcS.of (n:=0) (by rfl) (by k_asm) (by k_asm) (by decide +kernel) (by decide +kernel) (by first | size_fits | exact Nat.le_of_ble_eq_true rfl) ?_;intro qg'))))|(k_here;(with_reducible show wpAny _ _ (eval (Expr.ListComp _ [⟨_,Expr.Name _ _,_,_⟩] _ _) _) _ _ _);k_dflt (refine no_implicit_lambda% (ListComp_S (F₀:=by k_asm) (by with_unfolding_all rfl) (by decide) (by rfl) (by decide) (by rfl) ?_)))|walk1|(refine StD.nx (by with_reducible assumption) _ ?_)|(refine StD.rt (by with_reducible assumption) _ _ ?_)|(refine Ups.up (by with_reducible assumption) _ _ ?_;(try dsimp only))|(k_end;wrow_close)|dsimp only|(leave1;try dsimp only))
    rename News _ _ _ _=>N9
    refine comp_end2 (by assumption) N9 ?_ ?_ ?_ trivial ?_
    · refine ⟨?_,?_,?_⟩ <;> k_ne
    · refine ⟨?_,?_,?_⟩ <;> k_ne
    · exact ⟨⟨by k_ne,by k_ne,by k_ne⟩,⟨by k_ne,by k_ne,by k_ne⟩,⟨by k_ne,by k_ne,by k_ne⟩,⟨by k_ne,by k_ne,by k_ne⟩,off3_of (by k_all) (by k_all) (by k_all)⟩
    clear N9
    (with_unfolding_all (refine LCg.CompRest.succ ?_;intro qv' qI' qoI' qC' qoC' qD' qm' qh' qtk' qE' qhv' qhC' qhx' qF' qN' qoff' qne';(refine gen fun gG' gH'=>?_);(first | obtain ⟨qt9',qhv9'⟩:=sign_at qhv' sign_one | obtain ⟨qt9',qhv9'⟩:=sign_at (z:=Str.ofString "a") qhv' (by decide +kernel)|obtain ⟨qt9',qhv9'⟩:=sign_at (z:=Str.ofString "b") qhv' (by decide +kernel)|obtain ⟨qt9',qhv9'⟩:=sign_at (z:=Str.ofString "c") qhv' (by decide +kernel)|obtain ⟨qt9',qhv9'⟩:=sign_at (z:=Str.ofString "x") qhv' (by decide +kernel));subst qhv9';(try simp only [LCg.Off3,and_true] at qoff');(repeat (obtain ⟨⟨_,_,_⟩,qoff'⟩:=qoff'));(try (obtain ⟨_,_,_⟩:=qoff'));(try (obtain ⟨_,_,_⟩:=qne'));(refine gH' ?_);(clear gH')))
    rename Off3 _ _ _ _=>off9
    refine gen fun G9 hG9=>?_
    obtain ⟨_,_,_⟩:=off3_1 off9
    refine hG9 ?_;clear off9 hG9
    repeat' (first|(k_unfold;(try dsimp only))|((with_reducible show wpAny _ _ (call _ _) _ _ _);first|(k_here;(with_reducible show wpAny _ _ (call (Value.ref 311) _) _ _ _);k_dflt (refine' no_implicit_lambda% (use_newR (of_b _ _) ?B ?F ?X ?N ?T ?kk ?dd ?uu ?_);tb_rel);intro qcs' qtl' qh' qtk' qF' qN' qhC' qhO';(try simp only [List.cons_append,List.nil_append,List.append_assoc] at qN');(try k_sweep))|(k_here;(with_reducible show wpAny _ _ (call (Value.ref 515) _) _ _ _);k_dflt (refine' no_implicit_lambda% (new_chars ?B ?F ?X ?N ?T ?kk ?dd ?uu ?_);tb_rel);intro qx' qd' qhh0 quu0 qh' qtk' qF' qN' ql1 ql2;(try k_sweep)))|walk1|(refine StD.nx (by with_reducible assumption) _ ?_)|(refine StD.rt (by with_reducible assumption) _ _ ?_)|(refine Ups.up (by with_reducible assumption) _ _ ?_;(try dsimp only))|(k_end;wrow_close)|dsimp only|(leave1;try dsimp only))
    rename News _ _ _ _=>N9
    refine comp_end2 (by assumption) N9 ?_ ?_ ?_ trivial ?_
    · refine ⟨?_,?_,?_⟩ <;> k_ne
    · refine ⟨?_,?_,?_⟩ <;> k_ne
    · exact ⟨⟨by k_ne,by k_ne,by k_ne⟩,⟨by k_ne,by k_ne,by k_ne⟩,⟨by k_ne,by k_ne,by k_ne⟩,⟨by k_ne,by k_ne,by k_ne⟩,⟨by k_ne,by k_ne,by k_ne⟩,⟨by k_ne,by k_ne,by k_ne⟩,off3_app.mpr ⟨off3_of (by k_all) (by k_all) (by k_all),off3_of (by k_all) (by k_all) (by k_all)⟩⟩
    clear N9
    repeat' (first|(k_unfold;(try dsimp only))|((with_reducible show wpAny _ _ (call _ _) _ _ _);first|(k_here;(with_reducible show wpAny _ _ (call (Value.ref 689) _) _ _ _);k_dflt (refine' no_implicit_lambda% (use_ron (cat2 _ _ _ _ _) ?hs ?B ?F ?X ?N ?T ?kk ?dd ?uu ?_);tb_rel;(case hs=>lcg_sub));intro qr' qtl' qh' qtk' qF' qN' qhV' qhO';(try simp only [List.cons_append,List.nil_append,List.append_assoc] at qN');(try k_sweep))|(k_here;(with_reducible show wpAny _ _ (call (Value.ref 515) _) _ _ _);k_dflt (refine' no_implicit_lambda% (new_chars ?B ?F ?X ?N ?T ?kk ?dd ?uu ?_);tb_rel);intro qx' qd' qhh0 quu0 qh' qtk' qF' qN' ql1 ql2;(try k_sweep)))|walk1|(refine StD.nx (by with_reducible assumption) _ ?_)|(refine StD.rt (by with_reducible assumption) _ _ ?_)|(refine Ups.up (by with_reducible assumption) _ _ ?_;(try dsimp only))|(k_end;wrow_close)|dsimp only|(leave1;try dsimp only))
    rename News _ _ _ _=>N9
    rename CsIn _ _ 97=>C97
    rename CsIn _ _ 98=>C98
    refine fin4 (by assumption) N9 rfl ?a1 ?a2 ?a3 ?a4 ?o9 (node_cat (NodeIn.up ?s1 ‹NodeIn _ (.cat (.hole _) (.hole _)) _›) ?s2 ?s3)
    case s1=>lcg_sub
    case s2=>exact ⟨_,_,_,_,_,rfl,by k_mem,by k_mem,CsIn.up (by lcg_sub) C97⟩
    case s3=>exact ⟨_,_,_,_,_,rfl,by k_mem,by k_mem,CsIn.up (by lcg_sub) C98⟩
    case o9=>lcg_off
    all_goals first
      | (refine' allLt_m ?h ?m1 ?m2 ?m3 ?m4;(case h=>with_reducible assumption);(case m1 | m2=>k_mem);(case m3=>k_mem);(case m4=>k_mem))
      | (refine' allLt_m2 ?h2 ?h ?m1 ?m2 ?m3 ?m4;(case h2 | h=>with_reducible assumption);(case m1 | m2=>k_mem);(case m3=>k_mem);(case m4=>k_mem))
end
set_option maxHeartbeats 2000000
section
variable {w : World} {A : Around} {E : Value → Shared → Prop} {s : Shared} {h₀ : Heap} {L D : Addr} {news : Led} {o : Obj} {kvs : List (Str × Value)} {k : Str} {t : Tok} {v : Value}
theorem notin_d {Q : Value → Shared → Prop} (N : News h₀ L s.heap news) (hp : (D,o) ∈ news) (hd : o.IsDictOf (PySem.strKind PR w) kvs) (lo : (D == sysModules) = false) (hv : valueAt kvs k = some v) (h : Q (.bool false) { s with toks:=s.toks + 1 }) :
    wpAny (model PR w) A (compareOp .NotIn (.str k t) (.ref D)) Q E s:=kdg_notin N hp hd lo (strKind_is _ _ _ _) true (by rw [hv];rfl) h
theorem item_d {value slice : PySem.Expr} {Q : Value → Shared → Prop} (N : News h₀ L s.heap news) (hp : (D,o) ∈ news) (hd : o.IsDictOf (PySem.strKind PR w) kvs) (hv : valueAt kvs k = some v) (h : Q v { s with toks:=s.toks + 1 })
    (hs : subscripted slice false (.ref D) (.str k t) = operate [.ref D,.str k t] (getItem (.ref D) (.str k t)):=by with_unfolding_all rfl) : wpAny (model PR w) A (subscriptTail value slice (.ref D) (.str k t)) Q E s :=
  kdt_tail N hp hd (kdt_getItem N hp hd (strKind_is _ _ _ _) hv h) hs
end
theorem fin0n {R : RK} {k k' p i' : Int} {t5 t4' : Tok} {ex : Led} {V : Led → Value → Prop} {g h' : Heap} {s : Shared} {L' : Addr} {m' : Str → Option Value} {v : Value} {tk' : Nat}
    (F : Fr g L' h' m') (N : News g L' h' (rdrT R k' t5 p t4' ex)) (e : p = i') (e' : k' = k) (hV : V [] v) :
    Done g s (RP R k i' ex V) v { s with heap:=h',toks:=tk' }:=by
  subst e e'
  exact done_s F N (own':=rdrT R k' t5 p t4' (ex ++ [])) (fun q hq=>by rwa [List.append_nil] at hq) ⟨[],_,_,rfl,hV,offX_nil⟩
def Quo (w : World) (R : RK) (ex : Led) (mid : List Nat) (T : Tr) (n : Nat) : Prop :=
  ∀ (k : Int) (t5 : Tok) (j : Int) (u : Tok) (t4 : Tok) (rest : List Nat),At R.tx j (34 :: (mid ++ rest)) → Sat w 841 n [.ref R.r,.int j u] (rdrT R k t5 (j + 1) t4 ex) (RP R k (j + 1 + mid.length) ex (fun tl r=>NodeIn tl T r))
section
variable (w : World) (R : RK) (hl : R.tx.length ≤ 1000)
  (n1 : @Ne Nat R.r R.dr) (n2 : @Ne Nat R.r R.c) (n3 : @Ne Nat R.r R.dc) (n4 : @Ne Nat R.dr R.c) (n5 : @Ne Nat R.dr R.dc) (n6 : @Ne Nat R.c R.dc)
include hl n1 n2 n3 n4 n5 n6
theorem quo0 : Quo w R [] [34] .empty 10:=fun k t5 j u t4 rest ha =>
  (quoted0x w R k t5 (j + 1) t4 hl n1 n2 n3 n4 n5 n6 j u rfl ha).rw (RP.up (by simp) fun _ _ h=>h)
theorem quo2 : Quo w R [] [97,98,34] (.cat (.chars 97) (.chars 98)) 12:=fun k t5 j u t4 rest ha =>
  (quoted2x w R k t5 (j + 1) t4 hl n1 n2 n3 n4 n5 n6 j u rfl ha).rw (RP.up (by simp;lia) fun _ _ h=>h)
variable {ex : Led} (hE : OffX R [] ex)
include hE
theorem single_quo {mid : List Nat} {T : Tr} {n : Nat} (hQ : Quo w R ex mid T n) : Sing w R ex 0 (34 :: mid) T (n + 4):=by
  intro k t5 i t4 rest h0 hk ha
  replace ha : At R.tx i (34 :: (mid ++ rest)):=ha
  obtain ⟨x1,x2,x3,x4,_⟩:=id hE
  replace x1 : Off ex R.r:=x1;replace x2 : Off ex R.dr:=x2;replace x3 : Off ex R.c:=x3;replace x4 : Off ex R.dc:=x4
  refine' sat_of (binds:=[(Str.ofString "self",.ref R.r)]) ?ho ?hcd ?hn ?hbind ?hloc ?h ?hcell ?hco ?hgen ?hk
  (case ho=>k_is);(case hcd=>k_is);(case hn=>first | decide | lia);(case hbind=>intro s X;first | exact BindsTo.of_eq rfl | exact binds_K X rfl (by k_is) rfl rfl rfl);(case hloc=>exact locs rfl)
  (case hcell=>decide);(case hco=>rfl);(case hgen=>rfl);(case hk=>rfl)
  intros
  repeat' (first|(k_unfold;(try dsimp only))|((with_reducible show wpAny _ _ (call _ _) _ _ _);first|(k_here;(with_reducible show wpAny _ _ (call (Value.ref 841) _) _ _ _);k_dflt (refine' no_implicit_lambda% (use_rd (‹Quo _ _ _ _ _ _› _ _ _ _ _ _ ?ha) ?hs ?U1 ?U2 ?B ?F ?X ?N ?T ?kk ?dd ?uu ?_);(case ha=>assumption);tb_rel;(case hs=>lcg_sub);(case U1=>k_updF);(case U2=>(intro qo';k_updF)));intro qr' qtl' qt5' qt4' qh' qtk' qF' qN' qhV' qhO';(try simp only [List.cons_append,List.nil_append,List.append_assoc] at qN');(try k_sweep))|(k_here;(with_reducible show wpAny _ _ (call (Value.ref 141) _) _ _ _);k_dflt (refine' no_implicit_lambda% (use_cur_str (take_at _ _ _ _ _ _ _ _ _ ?hl ?ha ?hne) ?hs ?U ?hne rfl ?B ?F ?X ?N ?T ?kk ?dd ?uu ?_);(case hl | ha=>assumption);tb_rel;(case hs=>first | assumption|(repeat' (first | exact trivial | k_mem | refine no_implicit_lambda% (And.intro ?_ ?_))));(case U=>k_updF);(case hne=>first | assumption | lia));intro qt1 qt2 qh' qtk' qF' qN';(have ha':=At.next ‹At _ _ (_ :: _)›);(try k_sweep)))|((with_reducible show wpAny _ _ (eval _ _) _ _ _);first|(k_here;(with_reducible show wpAny _ _ (eval (PySem.Expr.Call (PySem.Expr.Attribute (PySem.Expr.Attribute (PySem.Expr.Name _ _) _ _) _ _) [] [] _) _) _ _ _);k_dflt (refine' no_implicit_lambda% (call_at0 ?O ?M ?F ?X ?N ?hm ?m1 ?m2 ?hl ?m3 ?m4 ?hl2 ?_);(case F=>k_asm);(case X=>k_in);(case N=>k_asm);(case hm=>exact rfl);(case m1 | m2=>k_mem);(case hl=>exact rfl);(case m3 | m4=>k_mem);(case hl2=>exact rfl);(case O=>exact ow1 _);(case M=>first | exact mw5 _ | exact mw2 _ | exact mw4 _ | exact mw1 _ | exact mw6 _ | exact mw12 _)))|(k_here;(with_reducible show wpAny _ _ (eval (PySem.Expr.Attribute (PySem.Expr.Name _ _) _ _) _) _ _ _);k_dflt (refine' no_implicit_lambda% (at_own ?O ?F ?X ?N ?hm ?m1 ?m2 ?hl ?hv ?_);(case F=>k_asm);(case X=>k_in);(case N=>k_asm);(case hm=>exact rfl);(case m1 | m2=>k_mem);(case hl=>exact rfl);(case hv=>k_handed);(case O=>first | exact ow1 _ | exact ow5 _ | exact ow6 _ | exact ow2 _ | exact ow3 _ | exact ow4 _ | exact ⟨by k_is,by k_is,_,by k_is,by k_is⟩))))|walk1|(refine StD.nx (by with_reducible assumption) _ ?_)|(refine StD.rt (by with_reducible assumption) _ _ ?_)|(refine Ups.up (by with_reducible assumption) _ _ ?_;(try dsimp only))|(k_end;wrow_close)|dsimp only|(leave1;try dsimp only))
  rename News _ _ _ _=>N9
  refine fin0 (by assumption) N9 (by simp;lia) rfl ?o9 ‹NodeIn _ T _›
  lcg_off
end
section
variable (w : World) (R : RK) (hl : R.tx.length ≤ 1000)
  (n1 : @Ne Nat R.r R.dr) (n2 : @Ne Nat R.r R.c) (n3 : @Ne Nat R.r R.dc) (n4 : @Ne Nat R.dr R.c) (n5 : @Ne Nat R.dr R.dc) (n6 : @Ne Nat R.c R.dc)
  {ex : Led} {D : Addr} {o : Obj} {kvs : List (Str × Value)} {d : Nat} {v : Value} (hE : OffX R [] ((D,o) :: ex)) (hdv : R.dv = .ref D) (hd : o.IsDictOf (PySem.strKind PR w) kvs) (lo : (D == sysModules) = false) (d0 : 48 ≤ d) (d1 : d ≤ 51) (hv : valueAt kvs (⟨#[68,d]⟩ : Str) = some v)
include hl n1 n2 n3 n4 n5 n6 hE hdv hd lo d0 d1 hv
theorem single_def : Sing w R ((D,o) :: ex) 0 [123,68,d,125] (.hole v) 12:=by
  intro k t5 i t4 rest h0 hk ha
  replace ha : At R.tx i (123 :: 68 :: d :: 125 :: rest):=ha
  obtain ⟨x1,x2,x3,x4,_⟩:=id hE
  have y1 : @Ne Nat D R.r:=x1 _ (.head _)
  have y2 : @Ne Nat D R.dr:=x2 _ (.head _)
  have y3 : @Ne Nat D R.c:=x3 _ (.head _)
  have y4 : @Ne Nat D R.dc:=x4 _ (.head _)
  replace x1 : Off ex R.r:=fun q hq=>x1 q (.tail _ hq);replace x2 : Off ex R.dr:=fun q hq=>x2 q (.tail _ hq);replace x3 : Off ex R.c:=fun q hq=>x3 q (.tail _ hq);replace x4 : Off ex R.dc:=fun q hq=>x4 q (.tail _ hq)
  obtain ⟨r,dr,c,dc,h1,h2,h3,h4,u1,u2,u3,u4,dv,isP,hT,hA,k1,k2,k3,tx⟩:=R
  dsimp only at *
  subst hdv
  refine' sat_of (binds:=[(Str.ofString "self",.ref r)]) ?ho ?hcd ?hn ?hbind ?hloc ?h ?hcell ?hco ?hgen ?hk
  (case ho=>k_is);(case hcd=>k_is);(case hn=>first | decide | lia);(case hbind=>intro s X;first | exact BindsTo.of_eq rfl | exact binds_K X rfl (by k_is) rfl rfl rfl);(case hloc=>exact locs rfl)
  (case hcell=>decide);(case hco=>rfl);(case hgen=>rfl);(case hk=>rfl)
  intros
  repeat' (first|(k_unfold;(try dsimp only))|(k_here;(with_reducible show wpAny _ _ (subscriptTail _ _ (Value.ref _) (Value.str _ _)) _ _ _);k_dflt (refine' no_implicit_lambda% (item_d ?N ?hp ?hd ?hv ?_ ?hs);(case N=>k_asm);(case hp=>k_mem);(case hd=>assumption);(case hv=>assumption);(case hs=>with_unfolding_all rfl)))|(k_here;(with_reducible show wpAny _ _ (compareOp CmpOp.NotIn (Value.str _ _) (Value.ref _)) _ _ _);k_dflt (refine' no_implicit_lambda% (notin_d ?N ?hp ?hd ?lo ?hv ?_);(case N=>k_asm);(case hp=>k_mem);(case hd=>assumption);(case lo=>assumption);(case hv=>assumption)))|((with_reducible show wpAny _ _ (call _ _) _ _ _);first|(k_here;(with_reducible show wpAny _ _ (call (Value.ref 177) _) _ _ _);k_dflt (refine' no_implicit_lambda% (use_cur_str (name_at _ _ _ _ _ _ _ _ _ ?hl ?hne ?ha ?hd0 ?hd1) ?hs ?U ?hne rfl ?B ?F ?X ?N ?T ?kk ?dd ?uu ?_);(case hl | ha=>assumption);(case hd0=>assumption);(case hd1=>assumption);tb_rel;(case hs=>first | assumption|(repeat' (first | exact trivial | k_mem | refine no_implicit_lambda% (And.intro ?_ ?_))));(case U=>k_updF);(case hne=>first | assumption | lia));intro qt1 qt2 qh' qtk' qF' qN';(have ha':=At.next (At.next ‹At _ _ (_ :: _ :: _)›));(try k_sweep))|(k_here;(with_reducible show wpAny _ _ (call (Value.ref 148) _) _ _ _);k_dflt (refine' no_implicit_lambda% (use_cur_bool (skip_yes _ _ _ _ _ _ _ _ _ ?hl ?ha _ _ ?hy ?hne) ?hs ?U ?hne ?B ?F ?X ?N ?T ?kk ?dd ?uu ?_);(case hl | ha=>assumption);(case hy=>first | assumption | rfl);tb_rel;(case hs=>first | assumption|(repeat' (first | exact trivial | k_mem | refine no_implicit_lambda% (And.intro ?_ ?_))));(case U=>k_updF);(case hne=>first | assumption | lia));intro qt qh' qtk' qF' qN';(have ha':=At.next ‹At _ _ (_ :: _)›);(try k_sweep))|(k_here;(with_reducible show wpAny _ _ (call (Value.ref 141) _) _ _ _);k_dflt (refine' no_implicit_lambda% (use_cur_str (take_at _ _ _ _ _ _ _ _ _ ?hl ?ha ?hne) ?hs ?U ?hne rfl ?B ?F ?X ?N ?T ?kk ?dd ?uu ?_);(case hl | ha=>assumption);tb_rel;(case hs=>first | assumption|(repeat' (first | exact trivial | k_mem | refine no_implicit_lambda% (And.intro ?_ ?_))));(case U=>k_updF);(case hne=>first | assumption | lia));intro qt1 qt2 qh' qtk' qF' qN';(have ha':=At.next ‹At _ _ (_ :: _)›);(try k_sweep)))|((with_reducible show wpAny _ _ (eval _ _) _ _ _);first|(k_here;(with_reducible show wpAny _ _ (eval (PySem.Expr.Call (PySem.Expr.Attribute (PySem.Expr.Attribute (PySem.Expr.Name _ _) _ _) _ _) [PySem.Expr.Constant (Const.str _) _ _] [] _) _) _ _ _);k_dflt (refine' no_implicit_lambda% (call_at1 ?O ?M ?F ?X ?N ?hm ?m1 ?m2 ?hl ?m3 ?m4 ?hl2 ?_);(case F=>k_asm);(case X=>k_in);(case N=>k_asm);(case hm=>exact rfl);(case m1 | m2=>k_mem);(case hl=>exact rfl);(case m3 | m4=>k_mem);(case hl2=>exact rfl);(case O=>exact ow1 _);(case M=>first | exact mw5 _ | exact mw2 _ | exact mw4 _ | exact mw1 _ | exact mw6 _ | exact mw12 _)))|(k_here;(with_reducible show wpAny _ _ (eval (PySem.Expr.Call (PySem.Expr.Attribute (PySem.Expr.Attribute (PySem.Expr.Name _ _) _ _) _ _) [] [] _) _) _ _ _);k_dflt (refine' no_implicit_lambda% (call_at0 ?O ?M ?F ?X ?N ?hm ?m1 ?m2 ?hl ?m3 ?m4 ?hl2 ?_);(case F=>k_asm);(case X=>k_in);(case N=>k_asm);(case hm=>exact rfl);(case m1 | m2=>k_mem);(case hl=>exact rfl);(case m3 | m4=>k_mem);(case hl2=>exact rfl);(case O=>exact ow1 _);(case M=>first | exact mw5 _ | exact mw2 _ | exact mw4 _ | exact mw1 _ | exact mw6 _ | exact mw12 _)))|(k_here;(with_reducible show wpAny _ _ (eval (PySem.Expr.Attribute (PySem.Expr.Name _ _) _ _) _) _ _ _);k_dflt (refine' no_implicit_lambda% (at_own ?O ?F ?X ?N ?hm ?m1 ?m2 ?hl ?hv ?_);(case F=>k_asm);(case X=>k_in);(case N=>k_asm);(case hm=>exact rfl);(case m1 | m2=>k_mem);(case hl=>exact rfl);(case hv=>k_handed);(case O=>first | exact ow1 _ | exact ow5 _ | exact ow6 _ | exact ow2 _ | exact ow3 _ | exact ow4 _ | exact ⟨by k_is,by k_is,_,by k_is,by k_is⟩))))|walk1|(refine StD.nx (by with_reducible assumption) _ ?_)|(refine StD.rt (by with_reducible assumption) _ _ ?_)|(refine Ups.up (by with_reducible assumption) _ _ ?_;(try dsimp only))|(k_end;wrow_close)|dsimp only|(leave1;try dsimp only))
  rename News _ _ _ _=>N9
  exact fin0n (R:=⟨r,dr,c,dc,h1,h2,h3,h4,u1,u2,u3,u4,.ref D,isP,hT,hA,k1,k2,k3,tx⟩) (by assumption) N9 (by simp;lia) rfl rfl
end
theorem letter_a : Letter 97:=⟨by decide +kernel,by decide +kernel,by decide +kernel,by decide +kernel,by decide +kernel,by decide +kernel,by decide +kernel,by decide⟩
theorem letter_b : Letter 98:=⟨by decide +kernel,by decide +kernel,by decide +kernel,by decide +kernel,by decide +kernel,by decide +kernel,by decide +kernel,by decide⟩
theorem letter_c : Letter 99:=⟨by decide +kernel,by decide +kernel,by decide +kernel,by decide +kernel,by decide +kernel,by decide +kernel,by decide +kernel,by decide⟩
theorem letter_x : Letter 120:=⟨by decide +kernel,by decide +kernel,by decide +kernel,by decide +kernel,by decide +kernel,by decide +kernel,by decide +kernel,by decide⟩
theorem Sat.up {w : World} {f : Addr} {n n' : Nat} {vs : List Value} {own : Led} {P : Value → Led → Prop} (S : Sat w f n vs own P) (e : n ≤ n') : Sat w f n' vs own P:=by
  intro p loose mean mg mb dp un gd cn cs a ccd cl outer A₀ base h₀ L m s Q E B F X N T hk hd hu ret
  exact S p loose mean mg mb dp un gd cn cs a ccd cl outer A₀ base h₀ L m s Q E B F X N T hk (by lia) (by lia) ret
theorem Reads.le {w : World} {R : RK} {ex : Led} {d n d' n' : Nat} {mid : List Nat} {T : Tr} (h : Reads w R ex d mid T n) (e : n ≤ n') (e2 : d ≤ d') : Reads w R ex d' mid T n':=fun k t5 i t4 rest h0 hk ha hst=>(h k t5 i t4 rest h0 (by lia) ha hst).up e
theorem Quo.frame {w : World} {R : RK} {ex : Led} {mid : List Nat} {T : Tr} {n : Nat} (h : Quo w R [] mid T n) (hE : OffX R [] ex) : Quo w R ex mid T n:=fun k t5 j u t4 rest ha=>(h k t5 j u t4 rest ha).frame hE
theorem go_of {x : Nat} (h : GoAt [x]) : ∀ rest,GoAt (x :: rest):=fun _=>h
theorem go_a : GoAt [97]:=⟨by decide +kernel,by decide +kernel,by decide +kernel,by decide +kernel,by decide +kernel,by decide +kernel⟩
theorem go_b : GoAt [98]:=⟨by decide +kernel,by decide +kernel,by decide +kernel,by decide +kernel,by decide +kernel,by decide +kernel⟩
theorem go_c : GoAt [99]:=⟨by decide +kernel,by decide +kernel,by decide +kernel,by decide +kernel,by decide +kernel,by decide +kernel⟩
theorem go_x : GoAt [120]:=⟨by decide +kernel,by decide +kernel,by decide +kernel,by decide +kernel,by decide +kernel,by decide +kernel⟩
theorem go_p : GoAt [40]:=⟨by decide +kernel,by decide +kernel,by decide +kernel,by decide +kernel,by decide +kernel,by decide +kernel⟩
theorem go_q : GoAt [34]:=⟨by decide +kernel,by decide +kernel,by decide +kernel,by decide +kernel,by decide +kernel,by decide +kernel⟩
theorem go_d : GoAt [123]:=⟨by decide +kernel,by decide +kernel,by decide +kernel,by decide +kernel,by decide +kernel,by decide +kernel⟩
theorem noloop_c : NoLoop [99]:=⟨by decide +kernel,by decide +kernel,by decide +kernel,by decide +kernel⟩
section
variable (w : World) (R : RK) (hl : R.tx.length ≤ 1000)
  (n1 : @Ne Nat R.r R.dr) (n2 : @Ne Nat R.r R.c) (n3 : @Ne Nat R.r R.dc) (n4 : @Ne Nat R.dr R.c) (n5 : @Ne Nat R.dr R.dc) (n6 : @Ne Nat R.c R.dc)
  {ex : Led} (hE : OffX R [] ex)
include hl n1 n2 n3 n4 n5 n6 hE
theorem reads_one {d n : Nat} {x : Nat} {mid : List Nat} {T : Tr} (hS : Sing w R ex d (x :: mid) T n) (hg : GoAt [x]) : Reads w R ex d (x :: mid) T (n + 10):=by
  have:=branch_one w R hl n1 n2 n3 n4 n5 n6 hE hS (ls:=[]) (fun _ h=>by cases h) (by simp) (fun rest=>go_of hg _)
  rwa [List.append_nil] at this
theorem reads_a : Reads w R ex 0 [97] (.chars 97) 20:=reads_one w R hl n1 n2 n3 n4 n5 n6 hE (sing_chr w R hl n1 n2 n3 n4 n5 n6 hE letter_a) go_a
theorem reads_b : Reads w R ex 0 [98] (.chars 98) 20:=reads_one w R hl n1 n2 n3 n4 n5 n6 hE (sing_chr w R hl n1 n2 n3 n4 n5 n6 hE letter_b) go_b
theorem reads_x : Reads w R ex 0 [120] (.chars 120) 20:=reads_one w R hl n1 n2 n3 n4 n5 n6 hE (sing_chr w R hl n1 n2 n3 n4 n5 n6 hE letter_x) go_x
theorem reads_about {d n : Nat} {mid : List Nat} {T : Tr} (hB : Reads w R ex d mid T n) (h20 : 20 ≤ n) : Reads w R ex (d + 1) (40 :: (mid ++ [124,98,41,99])) (.cat (.alt T (.chars 98)) (.chars 99)) (n + 6):=by
  have c:=choice_two w R hl n1 n2 n3 n4 n5 n6 hE h20 hB ⟨(reads_b w R hl n1 n2 n3 n4 n5 n6 hE).le h20 (Nat.zero_le d)⟩
  have p:=single_par w R hl n1 n2 n3 n4 n5 n6 hE (by lia) c
  have r:=branch_two w R hl n1 n2 n3 n4 n5 n6 hE (by lia) p letter_c (fun rest=>go_of go_p _) (go_of go_c) (fun rest=>noloop_c)
  simp only [List.cons_append,List.append_assoc,List.nil_append] at r
  exact r.le (by lia) (by lia)
theorem reads_alt : Reads w R ex 1 [40,97,124,41] (.alt (.chars 97) .empty) 60:=by
  have c:=choice_two w R hl n1 n2 n3 n4 n5 n6 hE (by lia) (reads_a w R hl n1 n2 n3 n4 n5 n6 hE) ⟨(branch_empty w R hl n1 n2 n3 n4 n5 n6 hE).le (by lia) (Nat.zero_le 0)⟩
  have p:=single_par w R hl n1 n2 n3 n4 n5 n6 hE (by lia) c
  exact (reads_one w R hl n1 n2 n3 n4 n5 n6 hE p go_p).le (by lia) (by lia)
theorem reads_quo0 : Reads w R ex 0 [34,34] .empty 60 :=
  (reads_one w R hl n1 n2 n3 n4 n5 n6 hE (single_quo w R hl n1 n2 n3 n4 n5 n6 hE ((quo0 w R hl n1 n2 n3 n4 n5 n6).frame hE)) go_q).le (by lia) (by lia)
theorem reads_quo2 : Reads w R ex 0 [34,97,98,34] (.cat (.chars 97) (.chars 98)) 60 :=
  (reads_one w R hl n1 n2 n3 n4 n5 n6 hE (single_quo w R hl n1 n2 n3 n4 n5 n6 hE ((quo2 w R hl n1 n2 n3 n4 n5 n6).frame hE)) go_q).le (by lia) (by lia)
end
theorem reads_def (w : World) (R : RK) (hl : R.tx.length ≤ 1000)
  (n1 : @Ne Nat R.r R.dr) (n2 : @Ne Nat R.r R.c) (n3 : @Ne Nat R.r R.dc) (n4 : @Ne Nat R.dr R.c) (n5 : @Ne Nat R.dr R.dc) (n6 : @Ne Nat R.c R.dc)
  {ex : Led} {D : Addr} {o : Obj} {kvs : List (Str × Value)} {d : Nat} {v : Value} (hE : OffX R [] ((D,o) :: ex)) (hdv : R.dv = .ref D) (hd : o.IsDictOf (PySem.strKind PR w) kvs) (lo : (D == sysModules) = false) (d0 : 48 ≤ d) (d1 : d ≤ 51) (hv : valueAt kvs (⟨#[68,d]⟩ : Str) = some v)
  {ls : List Nat} (hls : ∀ x ∈ ls,x = 42 ∨ x = 43 ∨ x = 63) (hn : ls.length ≤ 20) : Reads w R ((D,o) :: ex) 0 (123 :: 68 :: d :: 125 :: ls) (loopsT ls (.hole v)) 60 :=
  (branch_one w R hl n1 n2 n3 n4 n5 n6 hE (single_def w R hl n1 n2 n3 n4 n5 n6 hE hdv hd lo d0 d1 hv) hls hn (fun rest=>go_of go_d _)).le (by lia) (by lia)
set_option maxHeartbeats 2000000
theorem mem_id {x : Addr × Obj} {l : Led} (h : x ∈ l) : List.Mem x l:=h
theorem mem_appl {x : Addr × Obj} {a b : Led} (h : List.Mem x a) : List.Mem x (a ++ b):=List.mem_append_left b h
theorem mem_appr {x : Addr × Obj} {a b : Led} (h : List.Mem x b) : List.Mem x (a ++ b):=List.mem_append_right a h
local macro_rules | `(tactic| k_mem)=>`(tactic| first|((with_reducible apply mem_appl);k_mem)|((with_reducible apply mem_appr);k_mem)|(refine mem_id ?_;with_reducible assumption))
structure Kind (w : World) (C : Addr) (nm : Str) : Prop where
  pg : plainGet (KF w.params) C "name" = true
  hd : hasDictIn (KF w.params) C = true
  at_ : ∃ tk,findIn (KF w.params) (.ref C) "name" = some (some (.str nm tk))
theorem sp_str (w : World) (nm : Str) (tk : Tok) : specialIn (KF w.params) (.str nm tk) "__get__" = some none:=by
  have h1 : typeIn (KF w.params) (.str nm tk) = some (.type "str"):=by rfl
  have h2 : findIn (KF w.params) (.type "str") "__get__" = some none:=by k_is
  unfold specialIn;rw [h1,Option.bind_some,h2]
theorem kind_chars (w : World) : Kind w 515 (Str.ofString "chars"):=⟨by k_is,by k_is,_,by k_is⟩
theorem kind_empty (w : World) : Kind w 477 (Str.ofString "empty"):=⟨by k_is,by k_is,_,by k_is⟩
theorem kind_cat (w : World) : Kind w 560 (Str.ofString "cat"):=⟨by k_is,by k_is,_,by k_is⟩
theorem kind_alt (w : World) : Kind w 572 (Str.ofString "alt"):=⟨by k_is,by k_is,_,by k_is⟩
theorem kind_star (w : World) : Kind w 617 (Str.ofString "star"):=⟨by k_is,by k_is,_,by k_is⟩
theorem kind_plus (w : World) : Kind w 629 (Str.ofString "plus"):=⟨by k_is,by k_is,_,by k_is⟩
theorem kind_opt (w : World) : Kind w 641 (Str.ofString "opt"):=⟨by k_is,by k_is,_,by k_is⟩
section
variable {prog : Program} {w : World} {A : Around} {E : Value → Shared → Prop} {s : Shared} {h₀ : Heap} {L b db C : Addr} {m : Str → Option Value} {news : Led} {nm : Str} {es : List DictEntry} {n : Nat}
theorem attr_name {expr : Bool} {Q : Value → Shared → Prop} (hK : Kind w C nm) (F : Fr h₀ L s.heap m) (X : (KF w.params).In h₀) (N : News h₀ L s.heap news) (m1 : (b,instObj C db) ∈ news) (m2 : (db,dictOf es n) ∈ news) (hl : getL (Str.ofString "name") es = some none)
    (h : ∀ tk,Q (.str nm tk) { s with toks:=s.toks + 1 }) : wpAny (model prog w) A (getAttr (.ref b) (Str.ofString "name") expr) Q E s:=by
  obtain ⟨tk,ha⟩:=hK.at_
  exact get_cls F X (InstAt.of_news N m1 m2) hK.pg hK.hd ha (sp_str w nm tk) (by simp only [handedIn]) (by decide +kernel) hl (h tk)
end
theorem eq_str_t {w : World} {A : Around} {E : Value → Shared → Prop} {s : Shared} {x y : Str} {t u : Tok} {Q : Value → Shared → Prop} {b : Bool} (e : (x == y) = b) (h : Q (.bool b) s) : wpAny (model PR w) A (compareOp .Eq (.str x t) (.str y u)) Q E s:=PyProof.Rows.eq_str (by rw [e];exact h)
theorem fin_ro1 {led : Led} {V : Led → Value → Prop} {g h' : Heap} {s : Shared} {L' x : Addr} {o : Obj} {m' : Str → Option Value} {v : Value} {tk' : Nat}
    (F : Fr g L' h' m') (N : News g L' h' ((x,o) :: led)) (hx : AllLt x led) (hV : V [(x,o)] v) : Done g s (RO led V) v { s with heap:=h',toks:=tk' } :=
  fin_ro F N [(x,o)] (fun q hq=>by
    rcases List.mem_append.mp hq with hq | hq
    · exact .tail _ hq
    · rw [List.mem_singleton.mp hq];exact .head _) (.lt hx .nil') hV
abbrev SpV (vs : List Value) : Led → Value → Prop:=fun tl r=>∃ l e,r = .ref l ∧ tl = [(l,W.listOf vs.toArray e)]
section
variable (w : World) (led : Led) {a d b db Cb : Addr} {h1 h2 : Int} {u1 u2 : Tok} {c : Addr} {nmb : Str} {es : List DictEntry} {n : Nat}
theorem spine_cat (ma : (a,instObj 560 d) ∈ led) (md : (d,dictOf [⟨h1,.str (Str.ofString "left") u1,.ref b⟩,⟨h2,.str (Str.ofString "right") u2,.ref c⟩] 2) ∈ led) (mb : (b,instObj Cb db) ∈ led) (mdb : (db,dictOf es n) ∈ led) (hK : Kind w Cb nmb) (he : getL (Str.ofString "name") es = some none) (hne : (nmb == Str.ofString "cat") = false) :
    Sat w 676 3 [.ref a] led (RO led (SpV [.ref b,.ref c])):=by
  refine' sat_of (binds:=[(Str.ofString "node",.ref a)]) ?ho ?hcd ?hn ?hbind ?hloc ?h ?hcell ?hco ?hgen ?hk
  (case ho=>k_is);(case hcd=>k_is);(case hn=>first | decide | lia);(case hbind=>intro s X;first | exact BindsTo.of_eq rfl | exact binds_K X rfl (by k_is) rfl rfl rfl);(case hloc=>exact locs rfl)
  (case hcell=>decide);(case hco=>rfl);(case hgen=>rfl);(case hk=>rfl)
  intros
  repeat' (first|(k_unfold;(try dsimp only))|(k_here;(with_reducible show wpAny _ _ (compareOp CmpOp.Eq (Value.str _ _) (Value.str _ _)) _ _ _);first | refine no_implicit_lambda% (eq_str_t ‹(_ == _) = _› ?_)|refine no_implicit_lambda% (eq_str_t (b:=true) (by decide +kernel) ?_)|refine no_implicit_lambda% (eq_str_t (b:=false) (by decide +kernel) ?_))|(k_here;(with_reducible show wpAny _ _ (getAttr (Value.ref _) (PySem.Str.ofString "name") _) _ _ _);k_dflt (refine' no_implicit_lambda% (attr_name ?hK ?F ?X ?N ?m1 ?m2 ?hl ?_);(case F=>k_asm);(case X=>k_asm);(case N=>k_asm);(case m1 | m2=>k_mem);(case hK=>first | assumption | exact kind_cat _ | exact kind_alt _);(case hl=>first | assumption | rfl));intro qtk')|(k_here;(with_reducible show wpAny _ _ (exec (Stmt.While _ _ _ _) _) _ _ _);k_dflt (refine no_implicit_lambda% (whl_start 100 ?_)))|(k_here;(with_reducible show wpAny _ _ (eval (PySem.Expr.Attribute (PySem.Expr.Name _ _) _ _) _) _ _ _);k_dflt (refine' no_implicit_lambda% (at_own ?O ?F ?X ?N ?hm ?m1 ?m2 ?hl ?hv ?_);(case F=>k_asm);(case X=>k_in);(case N=>k_asm);(case hm=>exact rfl);(case m1 | m2=>k_mem);(case hl=>exact rfl);(case hv=>k_handed);(case O=>first | exact ow1 _ | exact ow5 _ | exact ow6 _ | exact ow2 _ | exact ow3 _ | exact ow4 _ | exact ⟨by k_is,by k_is,_,by k_is,by k_is⟩)))|walk1|(refine StD.nx (by with_reducible assumption) _ ?_)|(refine StD.rt (by with_reducible assumption) _ _ ?_)|(refine Ups.up (by with_reducible assumption) _ _ ?_;(try dsimp only))|(k_end;wrow_close)|dsimp only|(leave1;try dsimp only))
  rename News _ _ _ _=>N9
  exact fin_ro1 (by assumption) N9 (by assumption) ⟨_,_,rfl,rfl⟩
theorem spine_alt (ma : (a,instObj 572 d) ∈ led) (md : (d,dictOf [⟨h1,.str (Str.ofString "left") u1,.ref b⟩,⟨h2,.str (Str.ofString "right") u2,.ref c⟩] 2) ∈ led) (mb : (b,instObj Cb db) ∈ led) (mdb : (db,dictOf es n) ∈ led) (hK : Kind w Cb nmb) (he : getL (Str.ofString "name") es = some none) (hne : (nmb == Str.ofString "alt") = false) :
    Sat w 676 3 [.ref a] led (RO led (SpV [.ref b,.ref c])):=by
  refine' sat_of (binds:=[(Str.ofString "node",.ref a)]) ?ho ?hcd ?hn ?hbind ?hloc ?h ?hcell ?hco ?hgen ?hk
  (case ho=>k_is);(case hcd=>k_is);(case hn=>first | decide | lia);(case hbind=>intro s X;first | exact BindsTo.of_eq rfl | exact binds_K X rfl (by k_is) rfl rfl rfl);(case hloc=>exact locs rfl)
  (case hcell=>decide);(case hco=>rfl);(case hgen=>rfl);(case hk=>rfl)
  intros
  repeat' (first|(k_unfold;(try dsimp only))|(k_here;(with_reducible show wpAny _ _ (compareOp CmpOp.Eq (Value.str _ _) (Value.str _ _)) _ _ _);first | refine no_implicit_lambda% (eq_str_t ‹(_ == _) = _› ?_)|refine no_implicit_lambda% (eq_str_t (b:=true) (by decide +kernel) ?_)|refine no_implicit_lambda% (eq_str_t (b:=false) (by decide +kernel) ?_))|(k_here;(with_reducible show wpAny _ _ (getAttr (Value.ref _) (PySem.Str.ofString "name") _) _ _ _);k_dflt (refine' no_implicit_lambda% (attr_name ?hK ?F ?X ?N ?m1 ?m2 ?hl ?_);(case F=>k_asm);(case X=>k_asm);(case N=>k_asm);(case m1 | m2=>k_mem);(case hK=>first | assumption | exact kind_cat _ | exact kind_alt _);(case hl=>first | assumption | rfl));intro qtk')|(k_here;(with_reducible show wpAny _ _ (exec (Stmt.While _ _ _ _) _) _ _ _);k_dflt (refine no_implicit_lambda% (whl_start 100 ?_)))|(k_here;(with_reducible show wpAny _ _ (eval (PySem.Expr.Attribute (PySem.Expr.Name _ _) _ _) _) _ _ _);k_dflt (refine' no_implicit_lambda% (at_own ?O ?F ?X ?N ?hm ?m1 ?m2 ?hl ?hv ?_);(case F=>k_asm);(case X=>k_in);(case N=>k_asm);(case hm=>exact rfl);(case m1 | m2=>k_mem);(case hl=>exact rfl);(case hv=>k_handed);(case O=>first | exact ow1 _ | exact ow5 _ | exact ow6 _ | exact ow2 _ | exact ow3 _ | exact ow4 _ | exact ⟨by k_is,by k_is,_,by k_is,by k_is⟩)))|walk1|(refine StD.nx (by with_reducible assumption) _ ?_)|(refine StD.rt (by with_reducible assumption) _ _ ?_)|(refine Ups.up (by with_reducible assumption) _ _ ?_;(try dsimp only))|(k_end;wrow_close)|dsimp only|(leave1;try dsimp only))
  rename News _ _ _ _=>N9
  exact fin_ro1 (by assumption) N9 (by assumption) ⟨_,_,rfl,rfl⟩
theorem spine_alt3 {a' d' c' : Addr} {h3 h4 : Int} {u3 u4 : Tok} (ma' : (a',instObj 572 d') ∈ led) (md' : (d',dictOf [⟨h3,.str (Str.ofString "left") u3,.ref a⟩,⟨h4,.str (Str.ofString "right") u4,.ref c'⟩] 2) ∈ led)
    (ma : (a,instObj 572 d) ∈ led) (md : (d,dictOf [⟨h1,.str (Str.ofString "left") u1,.ref b⟩,⟨h2,.str (Str.ofString "right") u2,.ref c⟩] 2) ∈ led) (mb : (b,instObj Cb db) ∈ led) (mdb : (db,dictOf es n) ∈ led) (hK : Kind w Cb nmb) (he : getL (Str.ofString "name") es = some none) (hne : (nmb == Str.ofString "alt") = false) :
    Sat w 676 3 [.ref a'] led (RO led (SpV [.ref b,.ref c,.ref c'])):=by
  refine' sat_of (binds:=[(Str.ofString "node",.ref a')]) ?ho ?hcd ?hn ?hbind ?hloc ?h ?hcell ?hco ?hgen ?hk
  (case ho=>k_is);(case hcd=>k_is);(case hn=>first | decide | lia);(case hbind=>intro s X;first | exact BindsTo.of_eq rfl | exact binds_K X rfl (by k_is) rfl rfl rfl);(case hloc=>exact locs rfl)
  (case hcell=>decide);(case hco=>rfl);(case hgen=>rfl);(case hk=>rfl)
  intros
  repeat' (first|(k_unfold;(try dsimp only))|(k_here;(with_reducible show wpAny _ _ (compareOp CmpOp.Eq (Value.str _ _) (Value.str _ _)) _ _ _);first | refine no_implicit_lambda% (eq_str_t ‹(_ == _) = _› ?_)|refine no_implicit_lambda% (eq_str_t (b:=true) (by decide +kernel) ?_)|refine no_implicit_lambda% (eq_str_t (b:=false) (by decide +kernel) ?_))|(k_here;(with_reducible show wpAny _ _ (getAttr (Value.ref _) (PySem.Str.ofString "name") _) _ _ _);k_dflt (refine' no_implicit_lambda% (attr_name ?hK ?F ?X ?N ?m1 ?m2 ?hl ?_);(case F=>k_asm);(case X=>k_asm);(case N=>k_asm);(case m1 | m2=>k_mem);(case hK=>first | assumption | exact kind_cat _ | exact kind_alt _);(case hl=>first | assumption | rfl));intro qtk')|(k_here;(with_reducible show wpAny _ _ (exec (Stmt.While _ _ _ _) _) _ _ _);k_dflt (refine no_implicit_lambda% (whl_start 100 ?_)))|(k_here;(with_reducible show wpAny _ _ (eval (PySem.Expr.Attribute (PySem.Expr.Name _ _) _ _) _) _ _ _);k_dflt (refine' no_implicit_lambda% (at_own ?O ?F ?X ?N ?hm ?m1 ?m2 ?hl ?hv ?_);(case F=>k_asm);(case X=>k_in);(case N=>k_asm);(case hm=>exact rfl);(case m1 | m2=>k_mem);(case hl=>exact rfl);(case hv=>k_handed);(case O=>first | exact ow1 _ | exact ow5 _ | exact ow6 _ | exact ow2 _ | exact ow3 _ | exact ow4 _ | exact ⟨by k_is,by k_is,_,by k_is,by k_is⟩)))|walk1|(refine StD.nx (by with_reducible assumption) _ ?_)|(refine StD.rt (by with_reducible assumption) _ _ ?_)|(refine Ups.up (by with_reducible assumption) _ _ ?_;(try dsimp only))|(k_end;wrow_close)|dsimp only|(leave1;try dsimp only))
  rename News _ _ _ _=>N9
  exact fin_ro1 (by assumption) N9 (by assumption) ⟨_,_,rfl,rfl⟩
end
set_option maxHeartbeats 2000000
theorem sub_trans {a b c : Led} (h : ∀ q ∈ a,q ∈ b) (h2 : ∀ q ∈ b,q ∈ c) : ∀ q ∈ a,q ∈ c:=fun q hq=>h2 q (h q hq)
local macro_rules | `(tactic| lcg_sub)=>`(tactic| (refine' sub_trans ?h ?h2;(case h=>with_reducible assumption);(case h2=>(intro p hp;(repeat (first | exact hp | exact List.mem_append_left _ hp | refine List.mem_append_right _ ?_ | refine List.mem_cons_of_mem _ ?_));done))))
def RoC (w : World) (f : Addr) (vs : List Value) (n : Nat) (led : Led) (V : Value → Prop) : Prop :=
  ∀ (news : Led),(∀ q ∈ led,q ∈ news) → ∀ (p : Program) (loose : List Str) (mean : ExcName → Option Value) (mg mb : Str → Option Value) (dp un : Nat) (gd : Option (List Code)) (cn : Str) (cs : Scope) (a : Addr) (ccd : Value) (cl : List (Str × Addr)) (outer : List Env) (A₀ : Around) (base h₀ : Heap) (L : Addr) (m : Str → Option Value) (s : Shared) (Q E : Value → Shared → Prop),
    Below A₀ base outer h₀ → Fr h₀ L s.heap m → (KF w.params).In h₀ → News h₀ L s.heap news → Top p loose mean mg mb h₀ → cs.kind = .function → dp + n < recursionLimit → un + 8 * n < cLine →
    (∀ r h' tk',Fr h₀ L h' m → News h₀ L h' news → V r → Q r { s with heap:=h',toks:=tk' }) → wpAny (model PR w) (ktrTop dp un gd cn cs L a ccd cl outer) (call (.ref f) vs) Q E s
theorem use_roc {w : World} {f : Addr} {n : Nat} {vs : List Value} {led news : Led} {V : Value → Prop} {p : Program} {loose : List Str} {mean : ExcName → Option Value} {mg mb : Str → Option Value} {dp un : Nat} {gd : Option (List Code)} {cn : Str} {cs : Scope} {a : Addr} {ccd : Value} {cl : List (Str × Addr)} {outer : List Env} {A₀ : Around} {base h₀ : Heap} {L : Addr} {m : Str → Option Value} {s : Shared} {Q E : Value → Shared → Prop}
    (S : RoC w f vs n led V) (hs : ∀ q ∈ led,q ∈ news) (B : Below A₀ base outer h₀) (F : Fr h₀ L s.heap m) (X : (KF w.params).In h₀) (N : News h₀ L s.heap news) (T : Top p loose mean mg mb h₀) (hk : cs.kind = .function) (hd : dp + n < recursionLimit) (hu : un + 8 * n < cLine)
    (ret : ∀ r h' tk',Fr h₀ L h' m → News h₀ L h' news → V r → Q r { s with heap:=h',toks:=tk' }) : wpAny (model PR w) (ktrTop dp un gd cn cs L a ccd cl outer) (call (.ref f) vs) Q E s :=
  S news hs p loose mean mg mb dp un gd cn cs a ccd cl outer A₀ base h₀ L m s Q E B F X N T hk hd hu ret
section
variable {w : World} {f : Addr} {n : Nat} {vs : List Value} {own news : Led} {p : Program} {loose : List Str} {mean : ExcName → Option Value} {mg mb : Str → Option Value} {dp un : Nat} {gd : Option (List Code)} {cn : Str} {cs : Scope} {a : Addr} {ccd : Value} {cl : List (Str × Addr)} {outer : List Env} {A₀ : Around} {base h₀ : Heap} {L : Addr} {m : Str → Option Value} {s : Shared} {Q E : Value → Shared → Prop}
theorem use_rocI {led : Led} {z : Int} (S : RoC w f vs n led (fun r=>∃ t,r = .int z t)) (hs : ∀ q ∈ led,q ∈ news) (B : Below A₀ base outer h₀) (F : Fr h₀ L s.heap m) (X : (KF w.params).In h₀) (N : News h₀ L s.heap news) (T : Top p loose mean mg mb h₀) (hk : cs.kind = .function) (hd : dp + n < recursionLimit) (hu : un + 8 * n < cLine)
    (ret : ∀ t h' tk',Fr h₀ L h' m → News h₀ L h' news → Q (.int z t) { s with heap:=h',toks:=tk' }) : wpAny (model PR w) (ktrTop dp un gd cn cs L a ccd cl outer) (call (.ref f) vs) Q E s :=
  use_roc S hs B F X N T hk hd hu fun r h' tk' F' N' hV=>by obtain ⟨t,rfl⟩:=hV;exact ret t h' tk' F' N'
end
def LevC (w : World) (led : Led) (v : Value) (f : Int → Int) (n : Nat) : Prop:=∀ (lv : Int) (u : Tok) (vs : List Value),(vs = [v,.int lv u] ∨ (vs = [v] ∧ lv = 0 ∧ u = 846)) → 0 ≤ lv → lv ≤ 2 → RoC w 682 vs n led (fun r=>∃ t,r = .int (f lv) t)
theorem LevC.use {w : World} {led : Led} {v : Value} {f : Int → Int} {n : Nat} {lv : Int} {u : Tok} (h : LevC w led v f n) (h0 : 0 ≤ lv) (h1 : lv ≤ 2) : RoC w 682 [v,.int lv u] n led (fun r=>∃ t,r = .int (f lv) t):=h lv u _ (.inl rfl) h0 h1
theorem LevC.use0 {w : World} {led : Led} {v : Value} {f : Int → Int} {n : Nat} (h : LevC w led v f n) : RoC w 682 [v] n led (fun r=>∃ t,r = .int (f 0) t):=h 0 846 _ (.inr ⟨rfl,rfl,rfl⟩) (by decide) (by decide)
theorem use_sp {w : World} {f : Addr} {n : Nat} {vs ws : List Value} {own news : Led} {p : Program} {loose : List Str} {mean : ExcName → Option Value} {mg mb : Str → Option Value} {dp un : Nat} {gd : Option (List Code)} {cn : Str} {cs : Scope} {a : Addr} {ccd : Value} {cl : List (Str × Addr)} {outer : List Env} {A₀ : Around} {base h₀ : Heap} {L : Addr} {m : Str → Option Value} {s : Shared} {Q E : Value → Shared → Prop}
    (S : Sat w f n vs own (RO own (SpV ws))) (hs : ∀ q ∈ own,q ∈ news) (B : Below A₀ base outer h₀) (F : Fr h₀ L s.heap m) (X : (KF w.params).In h₀) (N : News h₀ L s.heap news) (T : Top p loose mean mg mb h₀) (hk : cs.kind = .function) (hd : dp + n < recursionLimit) (hu : un + 8 * n < cLine)
    (ret : ∀ l e h' tk',Fr h₀ L h' m → News h₀ L h' ((l,W.listOf ws.toArray e) :: news) → AllOff news [(l,W.listOf ws.toArray e)] → Q (.ref l) { s with heap:=h',toks:=tk' }) : wpAny (model PR w) (ktrTop dp un gd cn cs L a ccd cl outer) (call (.ref f) vs) Q E s :=
  use_ron S hs B F X N T hk hd hu fun r tl h' tk' F' N' hV hO=>by
    obtain ⟨l,e,rfl,rfl⟩:=hV
    exact ret l e h' tk' F' (fun q hq=>N' q (by
      rcases List.mem_cons.mp hq with rfl | hq
      · exact List.mem_append_right _ (.head _)
      · exact List.mem_append_left _ hq)) hO
theorem ne_off1 {a l : Addr} {o o' : Obj} {n : Led} (h : AllOff n [(l,o')]) (m : (a,o) ∈ n) : @Ne Nat l a:=h.mem _ m _ (.head _)
theorem off_off1 {l : Addr} {o' : Obj} {n ex : Led} (h : AllOff n [(l,o')]) (hs : ∀ q ∈ ex,q ∈ n) : ∀ p ∈ ex,p.1 ≠ l:=fun p hp=>Ne.symm (h.mem p (hs p hp) _ (.head _))
local macro_rules | `(tactic| k_ne)=>`(tactic| (refine neN ?_;(try dsimp only);first
  | (refine' ne_off1 ?h ?m;(case h=>with_reducible assumption);(case m=>k_mem))
  | (refine Ne.symm ?_;refine' ne_off1 ?h ?m;(case h=>with_reducible assumption);(case m=>k_mem))))
local macro_rules | `(tactic| k_all)=>`(tactic| (refine' off_off1 ?h ?m;(case h=>with_reducible assumption);(case m=>lcg_sub)))
theorem comp_end0 {h₀ : Heap} {L I C D : Addr} {m : Str → Option Value} {s₁ : Shared} {oI oC oD : Obj} {S : List (Addr × Obj) → Prop} {rest : Value → List (Addr × Obj) → Prop} {y : Value} {h' : Heap} {tk : Nat} {tl : Led}
    (F : Fr h₀ L h' m) (N : News h₀ L h' ((I,oI) :: (C,oC) :: (D,oD) :: tl)) (off : Off3 I C D tl) (hS : S tl) (r : rest y tl) :
    CompEnd h₀ L m s₁ I oI C oC D oD S rest y { s₁ with heap:=h',toks:=tk }:=CompEnd.intro F N tl (fun p hp=>hp) off hS r
section
variable (w : World) (led : Led) {a d b db Cb : Addr} {h1 h2 : Int} {u1 u2 : Tok} {c : Addr} {n : Nat}
theorem lev_cat (ma : (a,instObj 560 d) ∈ led) (md : (d,dictOf [⟨h1,.str (Str.ofString "left") u1,.ref b⟩,⟨h2,.str (Str.ofString "right") u2,.ref c⟩] 2) ∈ led) (hS : Sat w 676 3 [.ref a] led (RO led (SpV [.ref b,.ref c])))
    {f g : Int → Int} (hf : LevC w led (.ref b) f n) (hg : LevC w led (.ref c) g n) : LevC w led (.ref a) (fun k=>max (f 2) (g 2) + if 2 ≤ k then 1 else 0) (n + 8):=by
  intro lv u vs hvs l0 l1 news hs p loose mean mg mb dp un gd cn cs a0 ccd cl outer A₀ base h₀ L m s Q E B F X N T hk hd hu ret
  have ma':=hs _ ma
  have md':=hs _ md
  refine' wpAny_call (code_defC (binds:=[(Str.ofString "node",.ref a),(Str.ofString "level",.int lv u)]) B F X N T ?kA ?kF ?kK ?k6 ?k7 ?k8 ?k9 ?kB ?kD ?_ ?c2 ?c3 ?c4)
  case kA=>exact rfl
  case kF=>exact rfl
  case kK=>exact hk
  case k6=>k_is
  case k7=>k_is
  case k8=>(show dp < recursionLimit;lia)
  case k9=>rcases hvs with rfl | ⟨rfl,rfl,rfl⟩ <;> exact binds_K (X.keeps F.keep) rfl (by k_is) rfl rfl rfl
  case kB=>exact rfl
  case kD=>decide +kernel
  case c2=>exact rfl
  case c3=>exact rfl
  case c4=>exact rfl
  intro g' L' h' tk' cells' FG' F' N' Y' B' X' T' l1
  k_lt l1
  k_cells Y'
  (try simp only [List.cons_append,List.nil_append] at N')
  (try dsimp only)
  have l2:=allLt_up l1 (Nat.lt_add_one L')
  repeat' (first|(k_unfold;(try dsimp only))|((fail_if_success (with_reducible show wpAny _ _ _ _ _ _));k_dflt (refine' comp_end0 ?F ?N ?off ?hS ?_;(case F=>assumption);(case N=>assumption);(case off=>assumption);(case hS=>lcg_src)))|((with_reducible show wpAny _ _ (call _ _) _ _ _);first|(k_here;(with_reducible show wpAny _ _ (call (Value.ref 676) _) _ _ _);k_dflt (refine' no_implicit_lambda% (use_sp (‹Sat _ 676 _ [_] _ (RO _ (SpV _))›) ?hs ?B ?F ?X ?N ?T ?kk ?dd ?uu ?_);tb_rel;(case hs=>lcg_sub));intro ql9' qe9' qh' qtk' qF' qN' qhO';(try k_sweep))|(k_here;(with_reducible show wpAny _ _ (call (Value.ref 682) [_,Value.int _ _]) _ _ _);k_dflt (refine' no_implicit_lambda% (use_rocI (LevC.use ?S ?h0 ?h1) ?hs ?B ?F ?X ?N ?T ?kk ?dd ?uu ?_);(case S=>assumption);tb_rel;(case hs=>lcg_sub);(case h0=>lia);(case h1=>lia));intro qt9' qh' qtk' qF' qN';(try k_sweep)))|(k_here;(with_reducible show wpAny _ _ (eval (PySem.Expr.ListComp _ _ _ _) _) _ _ _);k_dflt (refine no_implicit_lambda% (LCg.ListComp_U (F₀:=by k_asm) (by rfl) (by decide) (by rfl) (by decide) (by rfl) ?_)))|(k_here;(with_reducible show wpAny _ _ (compareOp CmpOp.Eq (Value.str _ _) (Value.str _ _)) _ _ _);first | refine no_implicit_lambda% (eq_str_t ‹(_ == _) = _› ?_)|refine no_implicit_lambda% (eq_str_t (b:=true) (by decide +kernel) ?_)|refine no_implicit_lambda% (eq_str_t (b:=false) (by decide +kernel) ?_))|(k_here;(with_reducible show wpAny _ _ (getAttr (Value.ref _) (PySem.Str.ofString "name") _) _ _ _);k_dflt (refine' no_implicit_lambda% (attr_name ?hK ?F ?X ?N ?m1 ?m2 ?hl ?_);(case F=>k_asm);(case X=>k_asm);(case N=>k_asm);(case m1 | m2=>k_mem);(case hK=>first | assumption | exact kind_cat _ | exact kind_alt _);(case hl=>first | assumption | rfl));intro qtk')|walk1|(refine StD.nx (by with_reducible assumption) _ ?_)|(refine StD.rt (by with_reducible assumption) _ _ ?_)|(refine Ups.up (by with_reducible assumption) _ _ ?_;(try dsimp only))|(k_end;wrow_close)|dsimp only|(leave1;try dsimp only))
  · rename News h₀ L _ _=>N9
    refine ret _ _ _ (by assumption) (fun q hq=>N9 q ?s1) ⟨_,congrArg (Value.int · _) ?e1⟩
    case s1=>repeat (first | exact hq | refine List.mem_cons_of_mem _ ?_)
    case e1=>show _ = max (f 2) (g 2) + (if 2 ≤ lv then 1 else 0);rw [if_pos (by assumption)];lia
  · rename News h₀ L _ _=>N9
    refine ret _ _ _ (by assumption) (fun q hq=>N9 q ?s1) ⟨_,congrArg (Value.int · _) ?e1⟩
    case s1=>repeat (first | exact hq | refine List.mem_cons_of_mem _ ?_)
    case e1=>show _ = max (f 2) (g 2) + (if 2 ≤ lv then 1 else 0);rw [if_neg (by assumption)];lia
theorem lev_alt (ma : (a,instObj 572 d) ∈ led) (md : (d,dictOf [⟨h1,.str (Str.ofString "left") u1,.ref b⟩,⟨h2,.str (Str.ofString "right") u2,.ref c⟩] 2) ∈ led) (hS : Sat w 676 3 [.ref a] led (RO led (SpV [.ref b,.ref c])))
    {f g : Int → Int} (hf : LevC w led (.ref b) f n) (hg : LevC w led (.ref c) g n) : LevC w led (.ref a) (fun k=>max (f 1) (g 1) + if 1 ≤ k then 1 else 0) (n + 8):=by
  intro lv u vs hvs l0 l1 news hs p loose mean mg mb dp un gd cn cs a0 ccd cl outer A₀ base h₀ L m s Q E B F X N T hk hd hu ret
  have ma':=hs _ ma
  have md':=hs _ md
  refine' wpAny_call (code_defC (binds:=[(Str.ofString "node",.ref a),(Str.ofString "level",.int lv u)]) B F X N T ?kA ?kF ?kK ?k6 ?k7 ?k8 ?k9 ?kB ?kD ?_ ?c2 ?c3 ?c4)
  case kA=>exact rfl
  case kF=>exact rfl
  case kK=>exact hk
  case k6=>k_is
  case k7=>k_is
  case k8=>(show dp < recursionLimit;lia)
  case k9=>rcases hvs with rfl | ⟨rfl,rfl,rfl⟩ <;> exact binds_K (X.keeps F.keep) rfl (by k_is) rfl rfl rfl
  case kB=>exact rfl
  case kD=>decide +kernel
  case c2=>exact rfl
  case c3=>exact rfl
  case c4=>exact rfl
  intro g' L' h' tk' cells' FG' F' N' Y' B' X' T' l1
  k_lt l1
  k_cells Y'
  (try simp only [List.cons_append,List.nil_append] at N')
  (try dsimp only)
  have l2:=allLt_up l1 (Nat.lt_add_one L')
  repeat' (first|(k_unfold;(try dsimp only))|((fail_if_success (with_reducible show wpAny _ _ _ _ _ _));k_dflt (refine' comp_end0 ?F ?N ?off ?hS ?_;(case F=>assumption);(case N=>assumption);(case off=>assumption);(case hS=>lcg_src)))|((with_reducible show wpAny _ _ (call _ _) _ _ _);first|(k_here;(with_reducible show wpAny _ _ (call (Value.ref 676) _) _ _ _);k_dflt (refine' no_implicit_lambda% (use_sp (‹Sat _ 676 _ [_] _ (RO _ (SpV _))›) ?hs ?B ?F ?X ?N ?T ?kk ?dd ?uu ?_);tb_rel;(case hs=>lcg_sub));intro ql9' qe9' qh' qtk' qF' qN' qhO';(try k_sweep))|(k_here;(with_reducible show wpAny _ _ (call (Value.ref 682) [_,Value.int _ _]) _ _ _);k_dflt (refine' no_implicit_lambda% (use_rocI (LevC.use ?S ?h0 ?h1) ?hs ?B ?F ?X ?N ?T ?kk ?dd ?uu ?_);(case S=>assumption);tb_rel;(case hs=>lcg_sub);(case h0=>lia);(case h1=>lia));intro qt9' qh' qtk' qF' qN';(try k_sweep)))|(k_here;(with_reducible show wpAny _ _ (eval (PySem.Expr.ListComp _ _ _ _) _) _ _ _);k_dflt (refine no_implicit_lambda% (LCg.ListComp_U (F₀:=by k_asm) (by rfl) (by decide) (by rfl) (by decide) (by rfl) ?_)))|(k_here;(with_reducible show wpAny _ _ (compareOp CmpOp.Eq (Value.str _ _) (Value.str _ _)) _ _ _);first | refine no_implicit_lambda% (eq_str_t ‹(_ == _) = _› ?_)|refine no_implicit_lambda% (eq_str_t (b:=true) (by decide +kernel) ?_)|refine no_implicit_lambda% (eq_str_t (b:=false) (by decide +kernel) ?_))|(k_here;(with_reducible show wpAny _ _ (getAttr (Value.ref _) (PySem.Str.ofString "name") _) _ _ _);k_dflt (refine' no_implicit_lambda% (attr_name ?hK ?F ?X ?N ?m1 ?m2 ?hl ?_);(case F=>k_asm);(case X=>k_asm);(case N=>k_asm);(case m1 | m2=>k_mem);(case hK=>first | assumption | exact kind_cat _ | exact kind_alt _);(case hl=>first | assumption | rfl));intro qtk')|walk1|(refine StD.nx (by with_reducible assumption) _ ?_)|(refine StD.rt (by with_reducible assumption) _ _ ?_)|(refine Ups.up (by with_reducible assumption) _ _ ?_;(try dsimp only))|(k_end;wrow_close)|dsimp only|(leave1;try dsimp only))
  · rename News h₀ L _ _=>N9
    refine ret _ _ _ (by assumption) (fun q hq=>N9 q ?s1) ⟨_,congrArg (Value.int · _) ?e1⟩
    case s1=>repeat (first | exact hq | refine List.mem_cons_of_mem _ ?_)
    case e1=>show _ = max (f 1) (g 1) + (if 1 ≤ lv then 1 else 0);rw [if_pos (by assumption)];lia
  · rename News h₀ L _ _=>N9
    refine ret _ _ _ (by assumption) (fun q hq=>N9 q ?s1) ⟨_,congrArg (Value.int · _) ?e1⟩
    case s1=>repeat (first | exact hq | refine List.mem_cons_of_mem _ ?_)
    case e1=>show _ = max (f 1) (g 1) + (if 1 ≤ lv then 1 else 0);rw [if_neg (by assumption)];lia
theorem lev_alt3 (ma : (a,instObj 572 d) ∈ led) {xl xr : Value} (md : (d,dictOf [⟨h1,.str (Str.ofString "left") u1,xl⟩,⟨h2,.str (Str.ofString "right") u2,xr⟩] 2) ∈ led) {c2 : Addr} {f2 : Int → Int} (hS : Sat w 676 3 [.ref a] led (RO led (SpV [.ref b,.ref c,.ref c2]))) (hf2 : LevC w led (.ref c2) f2 n)
    {f g : Int → Int} (hf : LevC w led (.ref b) f n) (hg : LevC w led (.ref c) g n) : LevC w led (.ref a) (fun k=>max (max (f 1) (g 1)) (f2 1) + if 1 ≤ k then 1 else 0) (n + 8):=by
  intro lv u vs hvs l0 l1 news hs p loose mean mg mb dp un gd cn cs a0 ccd cl outer A₀ base h₀ L m s Q E B F X N T hk hd hu ret
  have ma':=hs _ ma
  have md':=hs _ md
  refine' wpAny_call (code_defC (binds:=[(Str.ofString "node",.ref a),(Str.ofString "level",.int lv u)]) B F X N T ?kA ?kF ?kK ?k6 ?k7 ?k8 ?k9 ?kB ?kD ?_ ?c2 ?c3 ?c4)
  case kA=>exact rfl
  case kF=>exact rfl
  case kK=>exact hk
  case k6=>k_is
  case k7=>k_is
  case k8=>(show dp < recursionLimit;lia)
  case k9=>rcases hvs with rfl | ⟨rfl,rfl,rfl⟩ <;> exact binds_K (X.keeps F.keep) rfl (by k_is) rfl rfl rfl
  case kB=>exact rfl
  case kD=>decide +kernel
  case c2=>exact rfl
  case c3=>exact rfl
  case c4=>exact rfl
  intro g' L' h' tk' cells' FG' F' N' Y' B' X' T' l1
  k_lt l1
  k_cells Y'
  (try simp only [List.cons_append,List.nil_append] at N')
  (try dsimp only)
  have l2:=allLt_up l1 (Nat.lt_add_one L')
  repeat' (first|(k_unfold;(try dsimp only))|((fail_if_success (with_reducible show wpAny _ _ _ _ _ _));k_dflt (refine' comp_end0 ?F ?N ?off ?hS ?_;(case F=>assumption);(case N=>assumption);(case off=>assumption);(case hS=>lcg_src)))|((with_reducible show wpAny _ _ (call _ _) _ _ _);first|(k_here;(with_reducible show wpAny _ _ (call (Value.ref 676) _) _ _ _);k_dflt (refine' no_implicit_lambda% (use_sp (‹Sat _ 676 _ [_] _ (RO _ (SpV _))›) ?hs ?B ?F ?X ?N ?T ?kk ?dd ?uu ?_);tb_rel;(case hs=>lcg_sub));intro ql9' qe9' qh' qtk' qF' qN' qhO';(try k_sweep))|(k_here;(with_reducible show wpAny _ _ (call (Value.ref 682) [_,Value.int _ _]) _ _ _);k_dflt (refine' no_implicit_lambda% (use_rocI (LevC.use ?S ?h0 ?h1) ?hs ?B ?F ?X ?N ?T ?kk ?dd ?uu ?_);(case S=>assumption);tb_rel;(case hs=>lcg_sub);(case h0=>lia);(case h1=>lia));intro qt9' qh' qtk' qF' qN';(try k_sweep)))|(k_here;(with_reducible show wpAny _ _ (eval (PySem.Expr.ListComp _ _ _ _) _) _ _ _);k_dflt (refine no_implicit_lambda% (LCg.ListComp_U (F₀:=by k_asm) (by rfl) (by decide) (by rfl) (by decide) (by rfl) ?_)))|(k_here;(with_reducible show wpAny _ _ (compareOp CmpOp.Eq (Value.str _ _) (Value.str _ _)) _ _ _);first | refine no_implicit_lambda% (eq_str_t ‹(_ == _) = _› ?_)|refine no_implicit_lambda% (eq_str_t (b:=true) (by decide +kernel) ?_)|refine no_implicit_lambda% (eq_str_t (b:=false) (by decide +kernel) ?_))|(k_here;(with_reducible show wpAny _ _ (getAttr (Value.ref _) (PySem.Str.ofString "name") _) _ _ _);k_dflt (refine' no_implicit_lambda% (attr_name ?hK ?F ?X ?N ?m1 ?m2 ?hl ?_);(case F=>k_asm);(case X=>k_asm);(case N=>k_asm);(case m1 | m2=>k_mem);(case hK=>first | assumption | exact kind_cat _ | exact kind_alt _);(case hl=>first | assumption | rfl));intro qtk')|walk1|(refine StD.nx (by with_reducible assumption) _ ?_)|(refine StD.rt (by with_reducible assumption) _ _ ?_)|(refine Ups.up (by with_reducible assumption) _ _ ?_;(try dsimp only))|(k_end;wrow_close)|dsimp only|(leave1;try dsimp only))
  · rename News h₀ L _ _=>N9
    refine ret _ _ _ (by assumption) (fun q hq=>N9 q ?s1) ⟨_,congrArg (Value.int · _) ?e1⟩
    case s1=>repeat (first | exact hq | refine List.mem_cons_of_mem _ ?_)
    case e1=>show _ = max (max (f 1) (g 1)) (f2 1) + (if 1 ≤ lv then 1 else 0);rw [if_pos (by assumption)];lia
  · rename News h₀ L _ _=>N9
    refine ret _ _ _ (by assumption) (fun q hq=>N9 q ?s1) ⟨_,congrArg (Value.int · _) ?e1⟩
    case s1=>repeat (first | exact hq | refine List.mem_cons_of_mem _ ?_)
    case e1=>show _ = max (max (f 1) (g 1)) (f2 1) + (if 1 ≤ lv then 1 else 0);rw [if_neg (by assumption)];lia
end
set_option maxHeartbeats 2000000
structure LoopK (w : World) (C : Addr) (b : Bool) : Prop where
  yes : b = true → isIn (KF w.params) (.ref C) 605 = true
  no : b = false → kin_not (KF w.params) C 605 = true
  c1 : plainGet (KF w.params) C "__class__" = true
  c2 : hasDictIn (KF w.params) C = true
  c3 : findIn (KF w.params) (.ref C) "__class__" = some (some (.builtin "object.__class__"))
  c4 : mroIn (KF w.params) C (.type "object") = some true
theorem kc1 (w : World) : specialIn (KF w.params) (.builtin "object.__class__") "__get__" = some (some (.builtin "getset_descriptor.__get__")):=by k_is
theorem kc2 (w : World) : takesIn (KF w.params) (.builtin "object.__class__") = some true:=by k_is
theorem loopk_chars (w : World) : LoopK w 515 false:=⟨(fun e=>Bool.noConfusion e),fun _=>by kin_no,by k_is,by k_is,by k_is,by k_is⟩
theorem loopk_empty (w : World) : LoopK w 477 false:=⟨(fun e=>Bool.noConfusion e),fun _=>by kin_no,by k_is,by k_is,by k_is,by k_is⟩
theorem loopk_cat (w : World) : LoopK w 560 false:=⟨(fun e=>Bool.noConfusion e),fun _=>by kin_no,by k_is,by k_is,by k_is,by k_is⟩
theorem loopk_alt (w : World) : LoopK w 572 false:=⟨(fun e=>Bool.noConfusion e),fun _=>by kin_no,by k_is,by k_is,by k_is,by k_is⟩
theorem loopk_star (w : World) : LoopK w 617 true:=⟨fun _=>by k_is,(fun e=>Bool.noConfusion e),by k_is,by k_is,by k_is,by k_is⟩
theorem loopk_plus (w : World) : LoopK w 629 true:=⟨fun _=>by k_is,(fun e=>Bool.noConfusion e),by k_is,by k_is,by k_is,by k_is⟩
theorem loopk_opt (w : World) : LoopK w 641 true:=⟨fun _=>by k_is,(fun e=>Bool.noConfusion e),by k_is,by k_is,by k_is,by k_is⟩
section
variable {w : World} {A : Around} {E : Value → Shared → Prop} {s : Shared} {h₀ : Heap} {L b db C : Addr} {m : Str → Option Value} {news : Led} {es : List DictEntry} {n : Nat} {Q : Value → Shared → Prop}
theorem isi_loop {v : Bool} (hK : LoopK w C v) (F : Fr h₀ L s.heap m) (X : (KF w.params).In h₀) (N : News h₀ L s.heap news) (m1 : (b,instObj C db) ∈ news) (m2 : (db,dictOf es n) ∈ news)
    (h : ∀ tk,Q (.bool v) { s with toks:=tk }) : wpAny (model PR w) A (call (.builtin "isinstance") [.ref b,.ref 605]) Q E s:=by
  have I:=InstAt.of_news N m1 m2
  have X':=X.keeps F.keep
  cases v with
  | true=>exact isi_call X' (fun M=>I.type) (hK.yes rfl) (by intro e;cases e) (h s.toks)
  | false=>exact kin_callC X' I (hK.no rfl) hK.c1 hK.c2 hK.c3 (kc1 w) (kc2 w) hK.c4 (h _)
end
def WEnd (h₀ : Heap) (L : Addr) (J' : (Str → Option Value) → Led → Prop) (s₁ : Shared) (Q : Flow → Shared → Prop) (f : Flow) (s₂ : Shared) : Prop :=
  match f with
  | .ret v=>Q (.ret v) s₂
  | .brk=>Q .next s₂
  | _=>∃ h' tk m' news',s₂ = { s₁ with heap:=h',toks:=tk } ∧ Fr h₀ L h' m' ∧ News h₀ L h' news' ∧ J' m' news'
theorem whl_inv {prog : Program} {w : World} {A : Around} {E : Value → Shared → Prop} {s : Shared} {env : Env} {test : PySem.Expr} {body orelse : List Stmt} {Q : Flow → Shared → Prop} {k : Nat} {h₀ : Heap} (hE : PassesOwn (model prog w) A env E) (J : Nat → (Str → Option Value) → Led → Prop)
    (turn : ∀ n m₁ news₁ h₁ tk₁,J n m₁ news₁ → Fr h₀ env.locals h₁ m₁ → News h₀ env.locals h₁ news₁ →
      wpAny (model prog w) A (isTrue test env (eval test env)) (fun b s₂=>WhlIf b (wpAny (model prog w) A (execs body env) (WEnd h₀ env.locals (fun m' nw=>∃ n',n' < n ∧ J n' m' nw) s Q) E s₂) (wpAny (model prog w) A (execs orelse env) Q E s₂)) E { s with heap:=h₁,toks:=tk₁ }) :
    ∀ n m news h tk,J n m news → Fr h₀ env.locals h m → News h₀ env.locals h news → WhlRest prog w A E env test body orelse Q k { s with heap:=h,toks:=tk }:=by
  intro n
  induction n using Nat.strongRecOn with
  | _ n ih =>
    intro m news h tk hJ F N
    refine whl_turn (k:=k) hE (wpAny_mono (turn n m news h tk hJ F N) (fun b s₂ hb=>?_) fun _ _ e=>e)
    have fin : ∀ f s₃,WEnd h₀ env.locals (fun m' nw=>∃ n',n' < n ∧ J n' m' nw) s Q f s₃ → WhlPost prog w A E env test body orelse Q k f s₃:=fun f s₃ hf=>by
      cases f with
      | ret v=>exact hf
      | brk=>exact hf
      | next =>
        obtain ⟨h',tk',m',news',rfl,F',N',n',hn,hJ'⟩:=hf
        exact ih n' hn m' news' h' tk' hJ' F' N'
      | cont =>
        obtain ⟨h',tk',m',news',rfl,F',N',n',hn,hJ'⟩:=hf
        exact ih n' hn m' news' h' tk' hJ' F' N'
    cases b with
    | true=>exact wpAny_mono hb (fun f s₃ hf=>fin f s₃ hf) fun _ _ e=>e
    | false=>exact hb
def Chain (w : World) (led : Led) (v0 : Value) : Nat → Value → Prop
  | 0,v=>v = v0
  | n + 1,v=>∃ a C d h u vb nm,v = .ref a ∧ (a,instObj C d) ∈ led ∧ (d,dictOf [⟨h,.str (Str.ofString "body") u,.ref vb⟩] 1) ∈ led ∧ Kind w C nm ∧ LoopK w C true ∧ (C = 617 ∨ C = 629 ∨ C = 641) ∧ Chain w led v0 n (.ref vb)
set_option maxHeartbeats 2000000
section
variable (w : World) (led : Led) {a d : Addr} {n : Nat}
theorem lev_empty {k : Nat} (ma : (a,instObj 477 d) ∈ led) (md : (d,dictOf [] k) ∈ led) : LevC w led (.ref a) (fun _=>1) 6:=by
  intro lv u vs hvs l0 l1 news hs p loose mean mg mb dp un gd cn cs a0 ccd cl outer A₀ base h₀ L m s Q E B F X N T hk hd hu ret
  refine' wpAny_call (code_defC (binds:=[(Str.ofString "node",.ref a),(Str.ofString "level",.int lv u)]) B F X N T ?kA ?kF ?kK ?k6 ?k7 ?k8 ?k9 ?kB ?kD ?_ ?c2 ?c3 ?c4)
  case kA=>exact rfl
  case kF=>exact rfl
  case kK=>exact hk
  case k6=>k_is
  case k7=>k_is
  case k8=>(show dp < recursionLimit;omega)
  case k9=>rcases hvs with rfl | ⟨rfl,rfl,rfl⟩ <;> exact binds_K (X.keeps F.keep) rfl (by k_is) rfl rfl rfl
  case kB=>exact rfl
  case kD=>decide +kernel
  case c2=>exact rfl
  case c3=>exact rfl
  case c4=>exact rfl
  intro g' L' h' tk' cells' FG' F' N' Y' B' X' T' l1
  k_lt l1
  k_cells Y'
  (try simp only [List.cons_append,List.nil_append] at N')
  (try dsimp only)
  have l2:=allLt_up l1 (Nat.lt_add_one L')
  have ma':=hs _ ma
  have md':=hs _ md
  have hK:=kind_empty w
  repeat' (first|(k_unfold;(try dsimp only))|(k_here;(with_reducible show wpAny _ _ (compareOp CmpOp.Eq (Value.str _ _) (Value.str _ _)) _ _ _);first | refine no_implicit_lambda% (eq_str_t ‹(_ == _) = _› ?_)|refine no_implicit_lambda% (eq_str_t (b:=true) (by decide +kernel) ?_)|refine no_implicit_lambda% (eq_str_t (b:=false) (by decide +kernel) ?_))|(k_here;(with_reducible show wpAny _ _ (getAttr (Value.ref _) (PySem.Str.ofString "name") _) _ _ _);k_dflt (refine' no_implicit_lambda% (attr_name ?hK ?F ?X ?N ?m1 ?m2 ?hl ?_);(case F=>k_asm);(case X=>k_asm);(case N=>k_asm);(case m1 | m2=>k_mem);(case hK=>first | assumption | exact kind_cat _ | exact kind_alt _);(case hl=>first | assumption | rfl));intro qtk')|walk1|(refine StD.nx (by with_reducible assumption) _ ?_)|(refine StD.rt (by with_reducible assumption) _ _ ?_)|(refine Ups.up (by with_reducible assumption) _ _ ?_;(try dsimp only))|(k_end;wrow_close)|dsimp only|(leave1;try dsimp only))
  rename News h₀ L _ _=>N9
  exact ret _ _ _ (by assumption) (fun q hq=>N9 q (.tail _ hq)) ⟨_,rfl⟩
end
section
variable (w : World) (led : Led) {a d : Addr} {n : Nat}
theorem lev_chars {h : Int} {u0 : Tok} {v0 : Value} (ma : (a,instObj 515 d) ∈ led) (md : (d,dictOf [⟨h,.str (Str.ofString "charset") u0,v0⟩] 1) ∈ led) : LevC w led (.ref a) (fun _=>0) 6:=by
  intro lv u vs hvs l0 l1 news hs p loose mean mg mb dp un gd cn cs a0 ccd cl outer A₀ base h₀ L m s Q E B F X N T hk hd hu ret
  refine' wpAny_call (code_defC (binds:=[(Str.ofString "node",.ref a),(Str.ofString "level",.int lv u)]) B F X N T ?kA ?kF ?kK ?k6 ?k7 ?k8 ?k9 ?kB ?kD ?_ ?c2 ?c3 ?c4)
  case kA=>exact rfl
  case kF=>exact rfl
  case kK=>exact hk
  case k6=>k_is
  case k7=>k_is
  case k8=>(show dp < recursionLimit;omega)
  case k9=>rcases hvs with rfl | ⟨rfl,rfl,rfl⟩ <;> exact binds_K (X.keeps F.keep) rfl (by k_is) rfl rfl rfl
  case kB=>exact rfl
  case kD=>decide +kernel
  case c2=>exact rfl
  case c3=>exact rfl
  case c4=>exact rfl
  intro g' L' h' tk' cells' FG' F' N' Y' B' X' T' l1
  k_lt l1
  k_cells Y'
  (try simp only [List.cons_append,List.nil_append] at N')
  (try dsimp only)
  have l2:=allLt_up l1 (Nat.lt_add_one L')
  have ma':=hs _ ma
  have md':=hs _ md
  have hK:=kind_chars w
  have hL:=loopk_chars w
  repeat' (first|(k_unfold;(try dsimp only))|(k_here;(with_reducible show wpAny _ _ (call _ [Value.ref _,Value.ref 605]) _ _ _);k_dflt (refine' no_implicit_lambda% (isi_loop ?hK ?F ?X ?N ?m1 ?m2 ?_);(case F=>k_asm);(case X=>k_asm);(case N=>k_asm);(case m1 | m2=>k_mem);(case hK=>assumption));intro qtk')|(k_here;(with_reducible show wpAny _ _ (compareOp CmpOp.Eq (Value.str _ _) (Value.str _ _)) _ _ _);first | refine no_implicit_lambda% (eq_str_t ‹(_ == _) = _› ?_)|refine no_implicit_lambda% (eq_str_t (b:=true) (by decide +kernel) ?_)|refine no_implicit_lambda% (eq_str_t (b:=false) (by decide +kernel) ?_))|(k_here;(with_reducible show wpAny _ _ (getAttr (Value.ref _) (PySem.Str.ofString "name") _) _ _ _);k_dflt (refine' no_implicit_lambda% (attr_name ?hK ?F ?X ?N ?m1 ?m2 ?hl ?_);(case F=>k_asm);(case X=>k_asm);(case N=>k_asm);(case m1 | m2=>k_mem);(case hK=>first | assumption | exact kind_cat _ | exact kind_alt _);(case hl=>first | assumption | rfl));intro qtk')|(k_here;(with_reducible show wpAny _ _ (exec (Stmt.While _ _ _ _) _) _ _ _);k_dflt (refine no_implicit_lambda% (whl_start 100 ?_)))|walk1|(refine StD.nx (by with_reducible assumption) _ ?_)|(refine StD.rt (by with_reducible assumption) _ _ ?_)|(refine Ups.up (by with_reducible assumption) _ _ ?_;(try dsimp only))|(k_end;wrow_close)|dsimp only|(leave1;try dsimp only))
  rename News h₀ L _ _=>N9
  exact ret _ _ _ (by assumption) (fun q hq=>N9 q (.tail _ hq)) ⟨_,rfl⟩
end
def Held (p : Prop) : Prop:=p
theorem whl_hold {prog : Program} {w : World} {A : Around} {E : Value → Shared → Prop} {s : Shared} {env : Env} {test : PySem.Expr} {body orelse : List Stmt} {Q : Flow → Shared → Prop} {pos : Pos} (h : Held (WhlRest prog w A E env test body orelse Q 100 s)) : wpAny (model prog w) A (exec (.While test body orelse pos) env) Q E s:=whl_start 100 h
section
variable {prog : Program} {w : World} {A : Around} {E : Value → Shared → Prop} {s : Shared} {h₀ : Heap} {L b db C vb : Addr} {m : Str → Option Value} {news : Led} {hB : Int} {uB : Tok}
theorem attr_body {expr : Bool} {Q : Value → Shared → Prop} (hC : C = 617 ∨ C = 629 ∨ C = 641) (F : Fr h₀ L s.heap m) (X : (KF w.params).In h₀) (N : News h₀ L s.heap news) (m1 : (b,instObj C db) ∈ news) (m2 : (db,dictOf [⟨hB,.str (Str.ofString "body") uB,.ref vb⟩] 1) ∈ news)
    (h : Q (.ref vb) { s with toks:=s.toks + 1 }) : wpAny (model prog w) A (getAttr (.ref b) (Str.ofString "body") expr) Q E s:=by
  rcases hC with rfl | rfl | rfl
  · exact get_own F X (InstAt.of_news N m1 m2) (by k_is) (by k_is) (by k_is) (by k_is) rfl rfl h
  · exact get_own F X (InstAt.of_news N m1 m2) (by k_is) (by k_is) (by k_is) (by k_is) rfl rfl h
  · exact get_own F X (InstAt.of_news N m1 m2) (by k_is) (by k_is) (by k_is) (by k_is) rfl rfl h
end
theorem map2 {m0 : Str → Option Value} {x y : Str} {a b c d : Value} (hxy : x ≠ y) : (fun z=>if z = x then some a else if z = y then some b else if z = x then some c else if z = y then some d else m0 z) = (fun z=>if z = x then some a else if z = y then some b else m0 z):=by
  funext z
  by_cases h1 : z = x
  · simp [h1]
  · by_cases h2 : z = y
    · simp [h1,h2]
    · simp [h1,h2]
def LevJ (w : World) (led : Led) (v0 : Value) (mn : Nat) (m0 : Str → Option Value) (nw0 : Led) (n : Nat) (mm : Str → Option Value) (nw : Led) : Prop :=
  nw = nw0 ∧ ∃ (v : Value) (j : Int) (t : Tok),mm = (fun y=>if y = Str.ofString "here" then some v else if y = Str.ofString "loops" then some (.int j t) else m0 y) ∧ Chain w led v0 n v ∧ j + n = mn + 1
theorem lev_start {prog : Program} {w : World} {A : Around} {E : Value → Shared → Prop} {s : Shared} {env : Env} {test : PySem.Expr} {body orelse : List Stmt} {Q : Flow → Shared → Prop} {k n mn : Nat} {h₀ h : Heap} {led nw0 : Led} {v0 v : Value} {j : Int} {t : Tok} {m0 : Str → Option Value} {tk : Tok} (hE : PassesOwn (model prog w) A env E) (hc : Chain w led v0 n v) (hj : j + n = mn + 1)
    (F : Fr h₀ env.locals h (fun y=>if y = Str.ofString "here" then some v else if y = Str.ofString "loops" then some (.int j t) else m0 y)) (N : News h₀ env.locals h nw0)
    (turn : ∀ n v (j : Int) t h₁ tk₁,Chain w led v0 n v → j + n = mn + 1 → Fr h₀ env.locals h₁ (fun y=>if y = Str.ofString "here" then some v else if y = Str.ofString "loops" then some (.int j t) else m0 y) → News h₀ env.locals h₁ nw0 →
      wpAny (model prog w) A (isTrue test env (eval test env)) (fun b s₂=>WhlIf b (wpAny (model prog w) A (execs body env) (WEnd h₀ env.locals (fun m' nw=>∃ n',n' < n ∧ LevJ w led v0 mn m0 nw0 n' m' nw) s Q) E s₂) (wpAny (model prog w) A (execs orelse env) Q E s₂)) E { s with heap:=h₁,toks:=tk₁ }) :
    WhlRest prog w A E env test body orelse Q k { s with heap:=h,toks:=tk } :=
  whl_inv hE (LevJ w led v0 mn m0 nw0) (fun n m₁ news₁ h₁ tk₁ hJ F₁ N₁=>by
    obtain ⟨rfl,v,j,t,rfl,hc,hj⟩:=hJ
    exact turn n v j t h₁ tk₁ hc hj F₁ N₁) n _ _ h tk ⟨rfl,v,j,t,rfl,hc,hj⟩ F N
section
variable (w : World) (led : Led) {a d C : Addr} {n : Nat}
theorem lev_loops {mn : Nat} {h : Int} {u0 : Tok} {vb b db Cb : Addr} {nm nmb : Str} {es : List DictEntry} {k0 : Nat} (ma : (a,instObj C d) ∈ led) (md : (d,dictOf [⟨h,.str (Str.ofString "body") u0,.ref vb⟩] 1) ∈ led) (hK : Kind w C nm) (e1 : (nm == Str.ofString "empty") = false) (e2 : (nm == Str.ofString "alt") = false) (e3 : (nm == Str.ofString "cat") = false) (hC : Chain w led (.ref b) (mn + 1) (.ref a))
    (hKb : Kind w Cb nmb) (hLb : LoopK w Cb false) (mB : (b,instObj Cb db) ∈ led) (mdB : (db,dictOf es k0) ∈ led) {f : Int → Int} (hf : LevC w led (.ref b) f n) (hm : mn ≤ 100) : LevC w led (.ref a) (fun _=>f 2 + (mn : Int) / 20) (n + 8):=by
  intro lv u vs hvs l0 l1 news hs p loose mean mg mb dp un gd cn cs a0 ccd cl outer A₀ base h₀ L m s Q E B F X N T hk hd hu ret
  refine' wpAny_call (code_defC (binds:=[(Str.ofString "node",.ref a),(Str.ofString "level",.int lv u)]) B F X N T ?kA ?kF ?kK ?k6 ?k7 ?k8 ?k9 ?kB ?kD ?_ ?c2 ?c3 ?c4)
  case kA=>exact rfl
  case kF=>exact rfl
  case kK=>exact hk
  case k6=>k_is
  case k7=>k_is
  case k8=>(show dp < recursionLimit;omega)
  case k9=>rcases hvs with rfl | ⟨rfl,rfl,rfl⟩ <;> exact binds_K (X.keeps F.keep) rfl (by k_is) rfl rfl rfl
  case kB=>exact rfl
  case kD=>decide +kernel
  case c2=>exact rfl
  case c3=>exact rfl
  case c4=>exact rfl
  intro g' L' h' tk' cells' FG' F' N' Y' B' X' T' l1
  k_lt l1
  k_cells Y'
  (try simp only [List.cons_append,List.nil_append] at N')
  (try dsimp only)
  have l2:=allLt_up l1 (Nat.lt_add_one L')
  have ma':=hs _ ma
  have md':=hs _ md
  repeat' (first|(k_unfold;(try dsimp only))|(k_here;(with_reducible show wpAny _ _ (exec (Stmt.While _ _ _ _) _) _ _ _);k_dflt (refine no_implicit_lambda% (whl_hold ?_)))|(k_here;(with_reducible show wpAny _ _ (compareOp CmpOp.Eq (Value.str _ _) (Value.str _ _)) _ _ _);first | refine no_implicit_lambda% (eq_str_t ‹(_ == _) = _› ?_)|refine no_implicit_lambda% (eq_str_t (b:=true) (by decide +kernel) ?_)|refine no_implicit_lambda% (eq_str_t (b:=false) (by decide +kernel) ?_))|(k_here;(with_reducible show wpAny _ _ (getAttr (Value.ref _) (PySem.Str.ofString "name") _) _ _ _);k_dflt (refine' no_implicit_lambda% (attr_name ?hK ?F ?X ?N ?m1 ?m2 ?hl ?_);(case F=>k_asm);(case X=>k_asm);(case N=>k_asm);(case m1 | m2=>k_mem);(case hK=>first | assumption | exact kind_cat _ | exact kind_alt _);(case hl=>first | assumption | rfl));intro qtk')|walk1|(refine StD.nx (by with_reducible assumption) _ ?_)|(refine StD.rt (by with_reducible assumption) _ _ ?_)|(refine Ups.up (by with_reducible assumption) _ _ ?_;(try dsimp only))|(k_end;wrow_close)|dsimp only|(leave1;try dsimp only))
  rename Fr _ _ _ _=>F9
  rename News g' L' _ _=>N9
  refine' lev_start (h₀:=g') (n:=mn + 1) (mn:=mn) (led:=led) ?hE hC ?hj F9 N9 ?turn
  case hj=>simp
  case hE=>with_unfolding_all passes_own
  case turn =>
    clear F9 N9
    intro n' v j t h₁ tk₁ hc hj F₁ N₁
    cases n' with
    | zero =>
      cases hc
      have mb':=hs _ mB
      have mdb':=hs _ mdB
      repeat' (first|(k_unfold;(try dsimp only))|((with_reducible show wpAny _ _ (call _ _) _ _ _);first|(k_here;(with_reducible show wpAny _ _ (call _ [Value.ref _,Value.ref 605]) _ _ _);k_dflt (refine' no_implicit_lambda% (isi_loop ?hK ?F ?X ?N ?m1 ?m2 ?_);(case F=>k_asm);(case X=>k_asm);(case N=>k_asm);(case m1 | m2=>k_mem);(case hK=>assumption));intro qtk')|(k_here;(with_reducible show wpAny _ _ (call (Value.ref 682) [_,Value.int _ _]) _ _ _);k_dflt (refine' no_implicit_lambda% (use_rocI (LevC.use ?S ?h0 ?h1) ?hs ?B ?F ?X ?N ?T ?kk ?dd ?uu ?_);(case S=>assumption);tb_rel;(case hs=>lcg_sub);(case h0=>lia);(case h1=>lia));intro qt9' qh' qtk' qF' qN';(try k_sweep)))|(k_here;(with_reducible show wpAny _ _ (compareOp CmpOp.Eq (Value.int _ _) (Value.int _ _)) _ _ _);refine no_implicit_lambda% (eq_int_f (by lia) ?_))|walk1|(refine StD.nx (by with_reducible assumption) _ ?_)|(refine StD.rt (by with_reducible assumption) _ _ ?_)|(refine Ups.up (by with_reducible assumption) _ _ ?_;(try dsimp only))|(k_end;wrow_close)|dsimp only|(leave1;try dsimp only))
      rename News h₀ L _ _=>N9
      have ej : j = (mn : Int) + 1:=by lia
      subst ej
      refine ret _ _ _ (by assumption) (fun q hq=>N9 q ?s1) ⟨_,congrArg (Value.int · _) ?e1⟩
      case s1=>repeat (first | exact hq | refine List.mem_cons_of_mem _ ?_)
      case e1=>show _ = f 2 + (mn : Int) / 20;rw [show ((mn : Int) + 1 - 1) = mn by lia,Int.fdiv_eq_ediv_of_nonneg _ (by decide : (0 : Int) ≤ 20)]
    | succ n' =>
      obtain ⟨a1,C1,d1,h1,u1,vb1,nm1,rfl,m1,md1,hK1,hL1,hC1,hc1⟩:=hc
      have m1':=hs _ m1
      have md1':=hs _ md1
      repeat' (first|(k_unfold;(try dsimp only))|(k_here;(with_reducible show wpAny _ _ (getAttr (Value.ref _) (PySem.Str.ofString "body") _) _ _ _);k_dflt (refine' no_implicit_lambda% (attr_body ?hC ?F ?X ?N ?m1 ?m2 ?_);(case F=>k_asm);(case X=>k_asm);(case N=>k_asm);(case m1 | m2=>k_mem);(case hC=>assumption)))|(k_here;(with_reducible show wpAny _ _ (call _ [Value.ref _,Value.ref 605]) _ _ _);k_dflt (refine' no_implicit_lambda% (isi_loop ?hK ?F ?X ?N ?m1 ?m2 ?_);(case F=>k_asm);(case X=>k_asm);(case N=>k_asm);(case m1 | m2=>k_mem);(case hK=>assumption));intro qtk')|walk1|(refine StD.nx (by with_reducible assumption) _ ?_)|(refine StD.rt (by with_reducible assumption) _ _ ?_)|(refine Ups.up (by with_reducible assumption) _ _ ?_;(try dsimp only))|(k_end;wrow_close)|dsimp only|(leave1;try dsimp only))
      refine ⟨_,_,_,_,rfl,by assumption,by assumption,n',Nat.lt_succ_self _,rfl,.ref vb1,_,_,map2 (by decide),hc1,by lia⟩
end
set_option maxHeartbeats 2000000
def hdT : Tr → Option (String × Bool)
  | .hole _=>none
  | .empty=>some ("empty",false)
  | .chars _=>some ("chars",false)
  | .cat _ _=>some ("cat",false)
  | .alt _ _=>some ("alt",false)
  | .star _=>some ("star",true)
  | .plus _=>some ("plus",true)
  | .opt _=>some ("opt",true)
theorem hd_empty {led : Led} {v : Value} (h : NodeIn led .empty v) : HdIn led 477 v:=by
  obtain ⟨a,d,n,e,m1,m2⟩:=h;exact ⟨a,d,_,n,e,m1,m2,rfl⟩
theorem hd_chars {led : Led} {x : Int} {v : Value} (h : NodeIn led (.chars x) v) : HdIn led 515 v:=by
  obtain ⟨a,d,u,u2,cs,e,m1,m2,m3⟩:=h;exact ⟨a,d,_,_,e,m1,m2,rfl⟩
theorem hd_mk {w : World} {led : Led} {C : Addr} {v : Value} {nm : Str} {lb : Bool} (x : HdIn led C v) (k : Kind w C nm) (l : LoopK w C lb) : ∃ a C d es n,v = .ref a ∧ (a,instObj C d) ∈ led ∧ (d,dictOf es n) ∈ led ∧ Kind w C nm ∧ LoopK w C lb ∧ getL (Str.ofString "name") es = some none:=by
  obtain ⟨a,d,es,n,e,m1,m2,r⟩:=x;exact ⟨a,C,d,es,n,e,m1,m2,k,l,r⟩
theorem head_of (w : World) {led : Led} {T : Tr} {v : Value} {nm : String} {lb : Bool} (hd : hdT T = some (nm,lb)) (h : NodeIn led T v) :
    ∃ a C d es n,v = .ref a ∧ (a,instObj C d) ∈ led ∧ (d,dictOf es n) ∈ led ∧ Kind w C (Str.ofString nm) ∧ LoopK w C lb ∧ getL (Str.ofString "name") es = some none:=by
  cases T with
  | hole v=>cases hd
  | empty=>cases hd;exact hd_mk (hd_empty h) (kind_empty w) (loopk_empty w)
  | chars x=>cases hd;exact hd_mk (hd_chars h) (kind_chars w) (loopk_chars w)
  | cat l r=>cases hd;exact hd_mk (PairP.hd (C:=560) h) (kind_cat w) (loopk_cat w)
  | alt l r=>cases hd;exact hd_mk (PairP.hd (C:=572) h) (kind_alt w) (loopk_alt w)
  | star l=>cases hd;exact hd_mk (LoopP.hd (C:=617) h) (kind_star w) (loopk_star w)
  | plus l=>cases hd;exact hd_mk (LoopP.hd (C:=629) h) (kind_plus w) (loopk_plus w)
  | opt l=>cases hd;exact hd_mk (LoopP.hd (C:=641) h) (kind_opt w) (loopk_opt w)
theorem ref_of {led : Led} {T : Tr} {v : Value} {x : String × Bool} (hd : hdT T = some x) (h : NodeIn led T v) : ∃ a,v = .ref a:=by
  cases T with
  | hole v=>cases hd
  | empty=>cases hd;exact (hd_empty h).ref
  | chars x=>cases hd;exact (hd_chars h).ref
  | cat l r=>cases hd;exact (PairP.hd (C:=560) h).ref
  | alt l r=>cases hd;exact (PairP.hd (C:=572) h).ref
  | star l=>cases hd;exact (LoopP.hd (C:=617) h).ref
  | plus l=>cases hd;exact (LoopP.hd (C:=629) h).ref
  | opt l=>cases hd;exact (LoopP.hd (C:=641) h).ref
theorem hd_loop (x : Nat) (T : Tr) : ∃ nm,hdT (loopT x T) = some (nm,true) ∧ (nm = "star" ∨ nm = "plus" ∨ nm = "opt"):=by
  unfold loopT;split <;> exact ⟨_,rfl,by simp⟩
def Step1 (w : World) (led : Led) (v0 v : Value) : Prop:=∃ a C d h u vb nm,v = .ref a ∧ v0 = .ref vb ∧ (a,instObj C d) ∈ led ∧ (d,dictOf [⟨h,.str (Str.ofString "body") u,.ref vb⟩] 1) ∈ led ∧ Kind w C nm ∧ LoopK w C true ∧ (C = 617 ∨ C = 629 ∨ C = 641)
theorem chain_snoc {w : World} {led : Led} {v0 v1 : Value} (h : Step1 w led v0 v1) : ∀ {n : Nat} {v : Value},Chain w led v1 n v → Chain w led v0 (n + 1) v
  | 0,v,c=>by
    obtain ⟨a,C,d,hh,u,vb,nm,e,e0,m1,m2,k1,k2,k3⟩:=h
    exact ⟨a,C,d,hh,u,vb,nm,(show v = v1 from c) ▸ e,m1,m2,k1,k2,k3,e0.symm⟩
  | n + 1,v,c=>by
    obtain ⟨a,C,d,hh,u,vb,nm,e,m1,m2,k1,k2,k3,c⟩:=c
    exact ⟨a,C,d,hh,u,vb,nm,e,m1,m2,k1,k2,k3,chain_snoc h c⟩
theorem step_of (w : World) {led : Led} {T : Tr} {v : Value} {y : String × Bool} (hy : hdT T = some y) {x : Nat} (h : NodeIn led (loopT x T) v) : ∃ v0,NodeIn led T v0 ∧ Step1 w led v0 v:=by
  unfold loopT at h
  split at h <;> obtain ⟨a,d,h1,u1,vb,rfl,m1,m2,n1⟩:=h <;> obtain ⟨b,rfl⟩:=ref_of hy n1
  · exact ⟨_,n1,a,_,d,h1,u1,b,_,rfl,rfl,m1,m2,kind_star w,loopk_star w,.inl rfl⟩
  · exact ⟨_,n1,a,_,d,h1,u1,b,_,rfl,rfl,m1,m2,kind_plus w,loopk_plus w,.inr (.inl rfl)⟩
  · exact ⟨_,n1,a,_,d,h1,u1,b,_,rfl,rfl,m1,m2,kind_opt w,loopk_opt w,.inr (.inr rfl)⟩
theorem chain_of (w : World) {led : Led} : ∀ (ls : List Nat) {T : Tr} {v : Value} {y : String × Bool},hdT T = some y → NodeIn led (loopsT ls T) v → ∃ v0,NodeIn led T v0 ∧ Chain w led v0 ls.length v
  | [],_,v,_,_,h=>⟨v,h,rfl⟩
  | x :: ls,T,v,y,hy,h=>by
    obtain ⟨nm,e,_⟩:=hd_loop x T
    obtain ⟨v1,n1,c1⟩:=chain_of w ls e h
    obtain ⟨v0,n0,s0⟩:=step_of w hy n1
    exact ⟨v0,n0,chain_snoc s0 c1⟩
theorem LevC.up {w : World} {led : Led} {v : Value} {f : Int → Int} {n n' : Nat} (h : LevC w led v f n) (e : n ≤ n') : LevC w led v f n':=by
  intro lv u vs hvs l0 l1 news hs p loose mean mg mb dp un gd cn cs a0 ccd cl outer A₀ base h₀ L m s Q E B F X N T hk hd hu ret
  exact h lv u vs hvs l0 l1 news hs p loose mean mg mb dp un gd cn cs a0 ccd cl outer A₀ base h₀ L m s Q E B F X N T hk (by lia) (by lia) ret
theorem hd_loops : ∀ (ls : List Nat) (T : Tr) (x : Nat),∃ nm,hdT (loopsT (x :: ls) T) = some (nm,true) ∧ (nm = "star" ∨ nm = "plus" ∨ nm = "opt")
  | [],T,x=>hd_loop x T
  | y :: ls,T,x=>hd_loops ls (loopT x T) y
set_option maxHeartbeats 2000000
section
variable {prog : Program} {w : World} {A : Around} {E : Value → Shared → Prop} {s : Shared} {h₀ : Heap} {L a b : Addr} {news n₁ n₂ : Led} {d e : Dat} {Q : Value → Shared → Prop}
theorem eq_dat (N : News h₀ L s.heap news) (Da : DatIn n₁ (.ref a) d) (sa : ∀ p ∈ n₁,p ∈ news) (Db : DatIn n₂ (.ref b) e) (sb : ∀ p ∈ n₂,p ∈ news) (ha : kqdOk 8 d = true) (hb : kqdOk 8 e = true) (hu : A.units + 64 < cLine) {v : Bool} (hv : v = true ↔ d = e) (h : Q (.bool v) s) : wpAny (model prog w) A (compareOp .Eq (.ref a) (.ref b)) Q E s:=by
  obtain ⟨as,ra⟩:=kqd_in N 8 (Da.mono sa) ha
  obtain ⟨bs,rb⟩:=kqd_in N 8 (Db.mono sb) hb
  have la:=kqd_lay 8 d ha
  have lb:=kqd_lay 8 e hb
  have q : PyData.eqv (kqdP d) (kqdP e) = v:=Bool.eq_iff_iff.mpr ((kqd_eqv 8 d e 8 ha hb).trans hv.symm)
  refine eq_dataH ra rb ?_ ?_ hu (by rw [q];exact h)
  · unfold SeqAt.shaped;rw [la.1,Bool.true_and];exact decide_eq_true (Nat.le_trans la.2 (by decide))
  · unfold SeqAt.shaped;rw [lb.1,Bool.true_and];exact decide_eq_true (Nat.le_trans lb.2 (by decide))
theorem ne_dat (N : News h₀ L s.heap news) (Da : DatIn n₁ (.ref a) d) (sa : ∀ p ∈ n₁,p ∈ news) (Db : DatIn n₂ (.ref b) e) (sb : ∀ p ∈ n₂,p ∈ news) (ha : kqdOk 8 d = true) (hb : kqdOk 8 e = true) (hu : A.units + 64 < cLine) {v : Bool} (hv : v = true ↔ d = e) (h : Q (.bool (!v)) s) : wpAny (model prog w) A (compareOp .NotEq (.ref a) (.ref b)) Q E s:=by
  obtain ⟨as,ra⟩:=kqd_in N 8 (Da.mono sa) ha
  obtain ⟨bs,rb⟩:=kqd_in N 8 (Db.mono sb) hb
  have la:=kqd_lay 8 d ha
  have lb:=kqd_lay 8 e hb
  have q : PyData.eqv (kqdP d) (kqdP e) = v:=Bool.eq_iff_iff.mpr ((kqd_eqv 8 d e 8 ha hb).trans hv.symm)
  refine ne_dataH ra rb ?_ ?_ hu (by rw [q];exact h)
  · unfold SeqAt.shaped;rw [la.1,Bool.true_and];exact decide_eq_true (Nat.le_trans la.2 (by decide))
  · unfold SeqAt.shaped;rw [lb.1,Bool.true_and];exact decide_eq_true (Nat.le_trans lb.2 (by decide))
end
section
variable (w : World) (led : Led) {a d : Addr} {n : Nat}
theorem told_empty (ma : (a,instObj 477 d) ∈ led) (md : (d,dictOf [] n) ∈ led) : Sat w 460 3 [.ref a] led (RO led (fun tl r=>DatIn (led ++ tl) r (.tuple [.str (Str.ofString "empty")]))):=by
  have hK:=kind_empty w
  refine' sat_of (binds:=[(Str.ofString "self",.ref a)]) ?ho ?hcd ?hn ?hbind ?hloc ?h ?hcell ?hco ?hgen ?hk
  (case ho=>k_is);(case hcd=>k_is);(case hn=>first | decide | lia);(case hbind=>intro s X;first | exact BindsTo.of_eq rfl | exact binds_K X rfl (by k_is) rfl rfl rfl);(case hloc=>exact locs rfl)
  (case hcell=>decide);(case hco=>rfl);(case hgen=>rfl);(case hk=>rfl)
  intros
  repeat' (first|(k_unfold;(try dsimp only))|(k_here;(with_reducible show wpAny _ _ (getAttr (Value.ref _) (PySem.Str.ofString "name") _) _ _ _);k_dflt (refine' no_implicit_lambda% (attr_name ?hK ?F ?X ?N ?m1 ?m2 ?hl ?_);(case F=>k_asm);(case X=>k_asm);(case N=>k_asm);(case m1 | m2=>k_mem);(case hK=>first | assumption | exact kind_cat _ | exact kind_alt _);(case hl=>first | assumption | rfl));intro qtk')|walk1|(refine StD.nx (by with_reducible assumption) _ ?_)|(refine StD.rt (by with_reducible assumption) _ _ ?_)|(refine Ups.up (by with_reducible assumption) _ _ ?_;(try dsimp only))|(k_end;wrow_close)|dsimp only|(leave1;try dsimp only))
  rename News _ _ _ _=>N9
  exact fin_ro1 (by assumption) N9 (by assumption) (.tuple (List.mem_append_right _ (.head _)) (.cons (.str _ _) .nil))
abbrev tdC (x : Int) : Dat:=.tuple [.str (Str.ofString "chars"),.tuple [.tuple [.int x,.int x]]]
theorem cs_dat {x : Int} {sp : Addr} {p : Addr} {t1 t2 : Tok} (m1 : (sp,tup #[.ref p]) ∈ led) (m2 : (p,tup #[.int x t1,.int x t2]) ∈ led) : DatIn led (.ref sp) (.tuple [.tuple [.int x,.int x]]) :=
  .tuple m1 (.cons (.tuple m2 (.cons (.int _ _) (.cons (.int _ _) .nil))) .nil)
theorem told_chars {x : Int} (h : ChrIn led (.ref a) x) : Sat w 512 4 [.ref a] led (RO led (fun tl r=>DatIn (led ++ tl) r (tdC x))):=by
  have hK:=kind_chars w
  obtain ⟨a,d,h1,u,cs,e,m1,m2,dcs,h2,u2,sp,p,t1,t2,m3,m4,m5,m6⟩:=h
  cases e
  refine' sat_of (binds:=[(Str.ofString "self",.ref a)]) ?ho ?hcd ?hn ?hbind ?hloc ?h ?hcell ?hco ?hgen ?hk
  (case ho=>k_is);(case hcd=>k_is);(case hn=>first | decide | lia);(case hbind=>intro s X;first | exact BindsTo.of_eq rfl | exact binds_K X rfl (by k_is) rfl rfl rfl);(case hloc=>exact locs rfl)
  (case hcell=>decide);(case hco=>rfl);(case hgen=>rfl);(case hk=>rfl)
  intros
  repeat' (first|(k_unfold;(try dsimp only))|(k_here;(with_reducible show wpAny _ _ (getAttr (Value.ref _) (PySem.Str.ofString "name") _) _ _ _);k_dflt (refine' no_implicit_lambda% (attr_name ?hK ?F ?X ?N ?m1 ?m2 ?hl ?_);(case F=>k_asm);(case X=>k_asm);(case N=>k_asm);(case m1 | m2=>k_mem);(case hK=>first | assumption | exact kind_cat _ | exact kind_alt _);(case hl=>first | assumption | rfl));intro qtk')|(k_here;(with_reducible show wpAny _ _ (eval (PySem.Expr.Attribute (PySem.Expr.Name _ _) _ _) _) _ _ _);k_dflt (refine' no_implicit_lambda% (at_own ?O ?F ?X ?N ?hm ?m1 ?m2 ?hl ?hv ?_);(case F=>k_asm);(case X=>k_in);(case N=>k_asm);(case hm=>exact rfl);(case m1 | m2=>k_mem);(case hl=>exact rfl);(case hv=>k_handed);(case O=>first | exact ow1 _ | exact ow5 _ | exact ow6 _ | exact ow2 _ | exact ow3 _ | exact ow4 _ | exact ⟨by k_is,by k_is,_,by k_is,by k_is⟩)))|walk1|(refine StD.nx (by with_reducible assumption) _ ?_)|(refine StD.rt (by with_reducible assumption) _ _ ?_)|(refine Ups.up (by with_reducible assumption) _ _ ?_;(try dsimp only))|(k_end;wrow_close)|dsimp only|(leave1;try dsimp only))
  rename News _ _ _ _=>N9
  exact fin_ro1 (by assumption) N9 (by assumption) (.tuple (List.mem_append_right _ (.head _)) (.cons (.str _ _) (.cons (.tuple (List.mem_append_left _ m5) (.cons (.tuple (List.mem_append_left _ m6) (.cons (.int _ _) (.cons (.int _ _) .nil))) .nil)) .nil)))
end
theorem dat_ref {led : Led} {v : Value} {ds : List Dat} (h : DatIn led v (.tuple ds)) : ∃ a,v = .ref a:=by cases h;exact ⟨_,rfl⟩
theorem told_e (w : World) (led : Led) {a : Addr} (h : NodeIn led .empty (.ref a)) : Sat w 460 3 [.ref a] led (RO led (fun tl r=>DatIn (led ++ tl) r (.tuple [.str (Str.ofString "empty")]))):=by
  obtain ⟨a,d,n,e,m1,m2⟩:=h
  cases e
  exact told_empty w led m1 m2
set_option maxHeartbeats 2000000
section
variable {prog : Program} {w : World} {A : Around} {E : Value → Shared → Prop} {s : Shared} {h₀ : Heap} {m : Str → Option Value} {env : Env} {news : Led} {body : List Stmt} {Q : Flow → Shared → Prop}
theorem list_turns {x : Str} {px : Pos} {ax : Addr} {lo : Obj} {vs : List Value} {n : Nat} (hm : (ax,lo) ∈ news) (hc : lo.cls = .type "list") (hd : lo.data = .seq vs.toArray n) (hh : A.handled = none)
    (F : Fr h₀ env.locals s.heap m) (N : News h₀ env.locals s.heap news) (J : Nat → (Str → Option Value) → Led → Prop) (hJm : ∀ i m nw,J i m nw → (ax,lo) ∈ nw) (h0 : J 0 m news)
    (step : ∀ i v m₁ news₁ h₁ tk₁ (I : Addr) oI,vs[i]? = some v → J i m₁ news₁ → Fr h₀ env.locals h₁ m₁ → News h₀ env.locals h₁ ((I,oI) :: news₁) → (∀ p ∈ news₁,p.1 ≠ I) →
      wpAny (model prog w) A (assign (.Name x px) env v) (fun _ s₃=>wpAny (model prog w) A (execs body env) (TurnEnd h₀ env.locals I oI (J (i + 1)) { s with heap:=h₁,toks:=tk₁ } Q) E s₃) E { s with heap:=h₁,toks:=tk₁ })
    (fin : ∀ h' tk m' news',Fr h₀ env.locals h' m' → News h₀ env.locals h' news' → J vs.length m' news' → Q .next { s with heap:=h',toks:=tk }) :
    wpAny (model prog w) A (pyIter (.ref ax)) (fun it s₂=>TurnsAt prog w A h₀ env (.Name x px) body Q E it s₂) E s:=by
  have hax:=N _ hm
  have hl : s.heap.IsList ax vs.toArray:=⟨lo,hax.1,hc,n,hd⟩
  have hlt : ax < s.heap.objs.size:=Heap.lt_size hax.1
  have hne : ax ≠ s.heap.objs.size:=Nat.ne_of_lt hlt
  refine wpAny_pyIter_list hl ?_
  have keep : ∀ d o,s.heap.get? d = some o → (s.heap.push { cls:=.type "list_iterator",data:=.fields #[.ref ax,.int 0 0] }).get? d = some o:=fun _ _ e=>Heap.get?_push_of_some _ e
  have hI₀ : h₀.get? s.heap.objs.size = none:=next_is_new F
  have hIL : env.locals ≠ s.heap.objs.size:=Nat.ne_of_lt F.ns.lt
  have hvs : vs.toArray.size = vs.length:=by simp
  refine ⟨s.heap.objs.size,[s.heap.objs.size,ax],[s.heap.objs.size],vs.toArray.size,_,_,_,m,news,J,rfl,KTurns.ofWalks (Walks.list hh s.heap.objs.size ax hne vs.toArray) (fun i v s Q E st q=>letGo_listiter st.1 q),?_,?_,?_,?_,F.keeps keep,N.grown keep,h0,?_,?_⟩
  · intro h
    rcases List.mem_cons.mp h with h | h
    · exact hIL h
    · exact hax.2.1 (List.mem_singleton.mp h).symm
  · intro b hb;rw [List.mem_singleton.mp hb];exact hI₀
  · intro p hp hm;exact absurd (List.mem_singleton.mp hm) (Nat.ne_of_lt (Heap.lt_size (N p hp).1))
  · exact ⟨⟨_,Heap.get?_push_size _ rfl,rfl,rfl⟩,hl.at fun o e=>Heap.get?_push_of_some _ e⟩
  · intro i v' m₁ news₁ h₁ tk₁ own hi hP hJ hnw hown hown' howned hst F₁ N₁
    obtain ⟨⟨oI,hst',_⟩,_⟩:=hst
    have hmem:=howned _ (.head _) hI₀ _ hst'
    have hv : vs[i]? = some v':=by
      have : vs.toArray[i]? = some v':=hP
      simpa using this
    have off : ∀ p ∈ news₁,p.1 ≠ s.heap.objs.size:=fun p hp e=>hnw p hp (List.mem_singleton.mpr e)
    refine wpAny_mono (step i v' m₁ news₁ h₁ tk₁ s.heap.objs.size oI hv hJ F₁ (fun p hp=>?_) off) (fun _ s₃ h3=>wpAny_mono h3 (fun f s₄ h4=>?_) fun _ _ e=>e) fun _ _ e=>e
    · rcases List.mem_cons.mp hp with rfl | hp
      · exact N₁ _ (List.mem_append_left _ hmem)
      · exact N₁ _ (List.mem_append_right _ hp)
    · have fin : (∃ h' tk m' news',s₄ = { s with heap:=h',toks:=tk } ∧ Fr h₀ env.locals h' m' ∧ News h₀ env.locals h' ((s.heap.objs.size,oI) :: news') ∧ (∀ p ∈ news',p.1 ≠ s.heap.objs.size) ∧ J (i + 1) m' news') →
          LoopStepU h₀ env.locals [s.heap.objs.size] own (J (i + 1)) { s with heap:=h₁,toks:=tk₁ } .next s₄:=by
        rintro ⟨h',tk,m',news',rfl,F',N',off',J'⟩
        refine ⟨rfl,h',tk,m',news',rfl,F',fun p hp=>?_,fun p hp hm=>off' p hp (List.mem_singleton.mp hm),J'⟩
        rcases List.mem_append.mp hp with hp | hp
        · have e2:=hown' p hp
          rcases List.mem_cons.mp (hown p hp) with e1 | e1
          · rw [e1,hst'] at e2
            have e3 : p = (s.heap.objs.size,oI):=Prod.ext e1 (Option.some.inj e2).symm
            rw [e3];exact N' _ (.head _)
          · have e1:=List.mem_singleton.mp e1
            have a1:=(N₁ _ (List.mem_append_right _ (hJm _ _ _ hJ))).1
            rw [e1,a1] at e2
            have e3 : p = (ax,lo):=Prod.ext e1 (Option.some.inj e2).symm
            rw [e3];exact N' _ (.tail _ (hJm _ _ _ J'))
        · exact N' _ (.tail _ hp)
      cases f with
      | ret v=>exact h4
      | brk=>exact h4
      | cont=>exact fin h4
      | next=>exact fin h4
  · intro h' tk m' news' F' N' _ hJ
    rw [hvs] at hJ
    exact fin h' tk m' news' F' N' hJ
theorem list1_turns {x : Str} {px : Pos} {ax : Addr} {lo : Obj} {v : Value} {n : Nat} (hm : (ax,lo) ∈ news) (hc : lo.cls = .type "list") (hd : lo.data = .seq #[v] n) (hh : A.handled = none)
    (F : Fr h₀ env.locals s.heap m) (N : News h₀ env.locals s.heap news) (S : (Str → Option Value) → Led → Prop) (hSm : ∀ m nw,S m nw → (ax,lo) ∈ nw)
    (step : ∀ h₁ tk₁ (I : Addr) oI,Fr h₀ env.locals h₁ m → News h₀ env.locals h₁ ((I,oI) :: news) → (∀ p ∈ news,p.1 ≠ I) →
      wpAny (model prog w) A (assign (.Name x px) env v) (fun _ s₃=>wpAny (model prog w) A (execs body env) (TurnEnd h₀ env.locals I oI S { s with heap:=h₁,toks:=tk₁ } Q) E s₃) E { s with heap:=h₁,toks:=tk₁ })
    (fin : ∀ h' tk m' news',Fr h₀ env.locals h' m' → News h₀ env.locals h' news' → S m' news' → Q .next { s with heap:=h',toks:=tk }) :
    wpAny (model prog w) A (pyIter (.ref ax)) (fun it s₂=>TurnsAt prog w A h₀ env (.Name x px) body Q E it s₂) E s :=
  list_turns (vs:=[v]) hm hc hd hh F N (fun i m' nw=>(i = 0 → m' = m ∧ nw = news) ∧ (i ≠ 0 → S m' nw))
    (fun i m' nw h=>by
      by_cases h0 : i = 0
      · obtain ⟨_,rfl⟩:=h.1 h0;exact hm
      · exact hSm _ _ (h.2 h0)) ⟨fun _=>⟨rfl,rfl⟩,fun h=>absurd rfl h⟩
    (fun i v' m₁ news₁ h₁ tk₁ I oI hi J F₁ N₁ off=>by
      cases i with
      | zero =>
        obtain ⟨rfl,rfl⟩:=J.1 rfl
        cases hi
        refine wpAny_mono (step h₁ tk₁ I oI F₁ N₁ off) (fun _ s₃ h3=>wpAny_mono h3 (fun f s₄ h4=>?_) fun _ _ e=>e) fun _ _ e=>e
        cases f with
        | ret v=>exact h4
        | brk=>exact h4
        | next=>obtain ⟨a,b,c,d,e,f,g,i,j⟩:=h4;exact ⟨a,b,c,d,e,f,g,i,fun h=>absurd h (Nat.succ_ne_zero _),fun _=>j⟩
        | cont=>obtain ⟨a,b,c,d,e,f,g,i,j⟩:=h4;exact ⟨a,b,c,d,e,f,g,i,fun h=>absurd h (Nat.succ_ne_zero _),fun _=>j⟩
      | succ i=>simp at hi)
    (fun h' tk m' news' F' N' J=>fin h' tk m' news' F' N' (J.2 (Nat.succ_ne_zero 0)))
end
theorem turn_any {h₀ h' : Heap} {L I : Addr} {oI : Obj} {S : (Str → Option Value) → Led → Prop} {s₁ : Shared} {Q : Flow → Shared → Prop} {m' : Str → Option Value} {all : Led} {tk : Nat} (F : Fr h₀ L h' m') (N : News h₀ L h' all) (nw : Led) (hs : ∀ q ∈ (I,oI) :: nw,q ∈ all) (off : ∀ p ∈ nw,p.1 ≠ I) (hS : S m' nw) :
    TurnEnd h₀ L I oI S s₁ Q .next { s₁ with heap:=h',toks:=tk }:=⟨h',tk,m',nw,rfl,F,fun q hq=>N q (hs q hq),off,hS⟩
set_option maxHeartbeats 2000000
def TSt (led : Led) (x : Addr × Obj) (D : Dat) (m' : Str → Option Value) (nw : Led) : Prop:=∃ (r : Addr) (ob : Str → Option Value) (tl : Led),m' = (fun y=>if y = Str.ofString "text" then some (.ref r) else ob y) ∧ (∀ q ∈ led ++ tl,q ∈ nw) ∧ AllOff led tl ∧ DatIn (led ++ tl) (.ref r) D ∧ x ∈ nw
theorem told_loop {prog : Program} {w : World} {A : Around} {E : Value → Shared → Prop} {s : Shared} {h₀ : Heap} {m : Str → Option Value} {env : Env} {news : Led} {body : List Stmt} {Q : Flow → Shared → Prop} {x : Str} {px : Pos} {ax : Addr} {lo : Obj} {v : Value} {n : Nat} (led : Led) (D : Dat) (hm : (ax,lo) ∈ news) (hc : lo.cls = .type "list") (hd : lo.data = .seq #[v] n) (hh : A.handled = none)
    (F : Fr h₀ env.locals s.heap m) (N : News h₀ env.locals s.heap news)
    (step : ∀ h₁ tk₁ (I : Addr) oI,Fr h₀ env.locals h₁ m → News h₀ env.locals h₁ ((I,oI) :: news) → (∀ p ∈ news,p.1 ≠ I) →
      wpAny (model prog w) A (assign (.Name x px) env v) (fun _ s₃=>wpAny (model prog w) A (execs body env) (TurnEnd h₀ env.locals I oI (TSt led (ax,lo) D) { s with heap:=h₁,toks:=tk₁ } Q) E s₃) E { s with heap:=h₁,toks:=tk₁ })
    (fin : ∀ (r : Addr) (ob : Str → Option Value) (tl nw : Led) h' tk,Fr h₀ env.locals h' (fun y=>if y = Str.ofString "text" then some (.ref r) else ob y) → News h₀ env.locals h' nw → (∀ q ∈ led ++ tl,q ∈ nw) → AllOff led tl → DatIn (led ++ tl) (.ref r) D → Q .next { s with heap:=h',toks:=tk }) :
    wpAny (model prog w) A (pyIter (.ref ax)) (fun it s₂=>TurnsAt prog w A h₀ env (.Name x px) body Q E it s₂) E s :=
  list1_turns hm hc hd hh F N (TSt led (ax,lo) D) (fun m nw h=>h.choose_spec.choose_spec.choose_spec.2.2.2.2) step fun h' tk m' news' F' N' hS=>by
    obtain ⟨r,ob,tl,rfl,z1,z2,z3,z4⟩:=hS
    exact fin r ob tl news' h' tk F' N' z1 z2 z3
theorem turn_told {h₀ h' : Heap} {L I : Addr} {oI : Obj} {s₁ : Shared} {Q : Flow → Shared → Prop} {tk : Nat} {led tl1 tl2 : Led} {T D1 l9 : Addr} {o1 o9 : Obj} {nm : Str} {tk1 : Tok} {q1 q2 : Addr} {d1 d2 : Dat} {ob : Str → Option Value}
    (F : Fr h₀ L h' (fun y=>if y = Str.ofString "text" then some (.ref T) else ob y))
    (N : News h₀ L h' ((T,tup #[.str nm tk1,.ref q1,.ref q2]) :: (I,oI) :: (D1,o1) :: (l9,o9) :: (led ++ (tl1 ++ tl2))))
    (off : Off ((D1,o1) :: (l9,o9) :: (led ++ tl1)) I) (a1 : AllOff ((l9,o9) :: led) tl1) (a2 : AllOff ((I,oI) :: (D1,o1) :: (l9,o9) :: (led ++ tl1)) tl2) (lt : AllLt T ((I,oI) :: (D1,o1) :: (l9,o9) :: (led ++ (tl1 ++ tl2))))
    (x1 : DatIn (led ++ tl1) (.ref q1) d1) (x2 : DatIn (led ++ tl2) (.ref q2) d2) : TurnEnd h₀ L I oI (TSt led (D1,o1) (.tuple [.str nm,d1,d2])) s₁ Q .next { s₁ with heap:=h',toks:=tk }:=by
  have ha : ∀ q ∈ led ++ ((T,tup #[.str nm tk1,.ref q1,.ref q2]) :: (tl1 ++ tl2)),q ∈ (T,tup #[.str nm tk1,.ref q1,.ref q2]) :: (D1,o1) :: (l9,o9) :: (led ++ (tl1 ++ tl2)):=fun q hq=>by
    simp only [List.mem_append,List.mem_cons] at hq ⊢
    rcases hq with h | h | h | h <;> simp [h]
  refine turn_any F N ((T,tup #[.str nm tk1,.ref q1,.ref q2]) :: (D1,o1) :: (l9,o9) :: (led ++ (tl1 ++ tl2))) (fun q hq=>?_) (fun p hp=>?_) ⟨T,ob,(T,tup #[.str nm tk1,.ref q1,.ref q2]) :: (tl1 ++ tl2),rfl,ha,?_,?_,.tail _ (.head _)⟩
  · simp only [List.mem_append,List.mem_cons] at hq ⊢
    rcases hq with h | h | h | h | h <;> simp [h]
  · rcases List.mem_cons.mp hp with rfl | hp
    · exact Nat.ne_of_gt lt.1
    · by_cases h2 : p ∈ tl2
      · exact AllOff.mem a2 _ (.head _) p h2
      · refine off p ?_
        simp only [List.mem_append,List.mem_cons] at hp ⊢
        rcases hp with h | h | h | h | h
        · simp [h]
        · simp [h]
        · simp [h]
        · simp [h]
        · exact absurd h h2
  · refine AllOff.lt (allLt_of fun p hp=>allLt_mem lt p (.tail _ (.tail _ (.tail _ (List.mem_append_left _ hp))))) (AllOff.app a1.2 (allOff_of fun p hp q hq=>AllOff.mem a2 p (.tail _ (.tail _ (.tail _ (List.mem_append_left _ hp)))) q hq))
  · refine .tuple (List.mem_append_right _ (.head _)) (.cons (.str _ _) (.cons (x1.mono fun p hp=>?_) (.cons (x2.mono fun p hp=>?_) .nil)))
    · rcases List.mem_append.mp hp with h | h
      · exact List.mem_append_left _ h
      · exact List.mem_append_right _ (.tail _ (List.mem_append_left _ h))
    · rcases List.mem_append.mp hp with h | h
      · exact List.mem_append_left _ h
      · exact List.mem_append_right _ (.tail _ (List.mem_append_right _ h))
section
variable (w : World) (led : Led) {a d b c : Addr} {h1 h2 : Int} {u1 u2 : Tok}
theorem told_cat {x y : Int} (ma : (a,instObj 560 d) ∈ led) (md : (d,dictOf [⟨h1,.str (Str.ofString "left") u1,.ref b⟩,⟨h2,.str (Str.ofString "right") u2,.ref c⟩] 2) ∈ led) (hb : ChrIn led (.ref b) x) (hc : ChrIn led (.ref c) y) :
    Sat w 545 12 [.ref a] led (RO led (fun tl r=>DatIn (led ++ tl) r (.tuple [.str (Str.ofString "cat"),tdC x,tdC y]))):=by
  have hK:=kind_cat w
  have hS : Sat w 676 3 [.ref a] led (RO led (SpV [.ref b,.ref c])):=by
    obtain ⟨b',db,h3,u,cs,e,m1,m2,_⟩:=id hb
    cases e
    exact spine_cat w led ma md m1 m2 (kind_chars w) rfl (by decide +kernel)
  obtain ⟨b',db,h3,u3,cs,e,m1,m2,m3⟩:=id hb
  cases e
  obtain ⟨c',dc,h4,u4,cs2,e,m4,m5,m6⟩:=id hc
  cases e
  refine' sat_of (binds:=[(Str.ofString "self",.ref a)]) ?ho ?hcd ?hn ?hbind ?hloc ?h ?hcell ?hco ?hgen ?hk
  (case ho=>k_is);(case hcd=>k_is);(case hn=>first | decide | lia);(case hbind=>intro s X;first | exact BindsTo.of_eq rfl | exact binds_K X rfl (by k_is) rfl rfl rfl);(case hloc=>exact locs rfl)
  (case hcell=>decide);(case hco=>rfl);(case hgen=>rfl);(case hk=>rfl)
  intros
  repeat' (first|(k_unfold;(try dsimp only))|((with_reducible show wpAny _ _ (call _ _) _ _ _);first|(k_here;(with_reducible show wpAny _ _ (call (Value.ref 512) _) _ _ _);k_dflt (refine' no_implicit_lambda% (use_ronV (fun _ _ h=>dat_ref h) (told_chars _ _ (‹ChrIn _ (.ref _) _›)) ?hs ?B ?F ?X ?N ?T ?kk ?dd ?uu ?_);tb_rel;(case hs=>lcg_sub));intro qq9' qtl9' qh' qtk' qF' qN' qhV' qhO';(try simp only [List.cons_append,List.nil_append,List.append_assoc] at qN');(try k_sweep))|(k_here;(with_reducible show wpAny _ _ (call (Value.ref 676) _) _ _ _);k_dflt (refine' no_implicit_lambda% (use_sp (‹Sat _ 676 _ [_] _ (RO _ (SpV _))›) ?hs ?B ?F ?X ?N ?T ?kk ?dd ?uu ?_);tb_rel;(case hs=>lcg_sub));intro ql9' qe9' qh' qtk' qF' qN' qhO';(try k_sweep)))|(k_here;(with_reducible show wpAny _ _ (exec (Stmt.For (PySem.Expr.Name _ _) (PySem.Expr.Subscript _ _ _) _ _ _) _) _ _ _);(rename Fr _ _ _ _=>qlF');(with_unfolding_all refine' no_implicit_lambda% (For_turns qlF' ?_);k_whole))|walk1|(refine StD.nx (by with_reducible assumption) _ ?_)|(refine StD.rt (by with_reducible assumption) _ _ ?_)|(refine Ups.up (by with_reducible assumption) _ _ ?_;(try dsimp only))|(k_end;wrow_close)|dsimp only|(leave1;try dsimp only))
  rename Fr _ _ _ _=>F9
  rename News _ _ _ _=>N9
  refine' told_loop led (.tuple [.str (Str.ofString "cat"),tdC x,tdC y]) ?hm ?hc ?hd (by rfl) F9 N9 ?step ?fin
  case hm=>k_mem
  case hc=>rfl
  case hd=>rfl
  case step =>
    clear F9 N9
    intro h₁ tk₁ I oI F₁ N₁ off
    replace off : Off _ I:=off
    repeat' (first|(k_unfold;(try dsimp only))|(k_here;(with_reducible show wpAny _ _ (call (Value.ref 512) _) _ _ _);k_dflt (refine' no_implicit_lambda% (use_ronV (fun _ _ h=>dat_ref h) (told_chars _ _ (‹ChrIn _ (.ref _) _›)) ?hs ?B ?F ?X ?N ?T ?kk ?dd ?uu ?_);tb_rel;(case hs=>lcg_sub));intro qq9' qtl9' qh' qtk' qF' qN' qhV' qhO';(try simp only [List.cons_append,List.nil_append,List.append_assoc] at qN');(try k_sweep))|(k_here;(with_reducible show wpAny _ _ (getAttr (Value.ref _) (PySem.Str.ofString "name") _) _ _ _);k_dflt (refine' no_implicit_lambda% (attr_name ?hK ?F ?X ?N ?m1 ?m2 ?hl ?_);(case F=>k_asm);(case X=>k_asm);(case N=>k_asm);(case m1 | m2=>k_mem);(case hK=>first | assumption | exact kind_cat _ | exact kind_alt _);(case hl=>first | assumption | rfl));intro qtk')|walk1|(refine StD.nx (by with_reducible assumption) _ ?_)|(refine StD.rt (by with_reducible assumption) _ _ ?_)|(refine Ups.up (by with_reducible assumption) _ _ ?_;(try dsimp only))|(k_end;wrow_close)|dsimp only|(leave1;try dsimp only))
    exact turn_told (by assumption) (by assumption) off (by assumption) (by assumption) (by assumption) (by assumption) (by assumption)
  case fin =>
    clear F9 N9
    intro r ob tl nw h' tk' F' N' z1 z2 z3
    repeat' (first|(k_unfold;(try dsimp only))|walk1|(refine StD.nx (by with_reducible assumption) _ ?_)|(refine StD.rt (by with_reducible assumption) _ _ ?_)|(refine Ups.up (by with_reducible assumption) _ _ ?_;(try dsimp only))|(k_end;wrow_close)|(dsimp only;walk1)|(leave1;try dsimp only))
    exact fin_ro (by assumption) (by assumption) tl z1 z2 z3
theorem told_alt {x : Int} (ma : (a,instObj 572 d) ∈ led) (md : (d,dictOf [⟨h1,.str (Str.ofString "left") u1,.ref b⟩,⟨h2,.str (Str.ofString "right") u2,.ref c⟩] 2) ∈ led) (hb : ChrIn led (.ref b) x) (hc : NodeIn led .empty (.ref c)) :
    Sat w 545 12 [.ref a] led (RO led (fun tl r=>DatIn (led ++ tl) r (.tuple [.str (Str.ofString "alt"),tdC x,.tuple [.str (Str.ofString "empty")]]))):=by
  have hK:=kind_alt w
  have hS : Sat w 676 3 [.ref a] led (RO led (SpV [.ref b,.ref c])):=by
    obtain ⟨b',db,h3,u,cs,e,m1,m2,_⟩:=id hb
    cases e
    exact spine_alt w led ma md m1 m2 (kind_chars w) rfl (by decide +kernel)
  obtain ⟨b',db,h3,u3,cs,e,m1,m2,m3⟩:=id hb
  cases e
  obtain ⟨c',dc,n4,e,m4,m5⟩:=id hc
  cases e
  refine' sat_of (binds:=[(Str.ofString "self",.ref a)]) ?ho ?hcd ?hn ?hbind ?hloc ?h ?hcell ?hco ?hgen ?hk
  (case ho=>k_is);(case hcd=>k_is);(case hn=>first | decide | lia);(case hbind=>intro s X;first | exact BindsTo.of_eq rfl | exact binds_K X rfl (by k_is) rfl rfl rfl);(case hloc=>exact locs rfl)
  (case hcell=>decide);(case hco=>rfl);(case hgen=>rfl);(case hk=>rfl)
  intros
  repeat' (first|(k_unfold;(try dsimp only))|((with_reducible show wpAny _ _ (call _ _) _ _ _);first|(k_here;(with_reducible show wpAny _ _ (call (Value.ref 512) _) _ _ _);k_dflt (refine' no_implicit_lambda% (use_ronV (fun _ _ h=>dat_ref h) (told_chars _ _ (‹ChrIn _ (.ref _) _›)) ?hs ?B ?F ?X ?N ?T ?kk ?dd ?uu ?_);tb_rel;(case hs=>lcg_sub));intro qq9' qtl9' qh' qtk' qF' qN' qhV' qhO';(try simp only [List.cons_append,List.nil_append,List.append_assoc] at qN');(try k_sweep))|(k_here;(with_reducible show wpAny _ _ (call (Value.ref 676) _) _ _ _);k_dflt (refine' no_implicit_lambda% (use_sp (‹Sat _ 676 _ [_] _ (RO _ (SpV _))›) ?hs ?B ?F ?X ?N ?T ?kk ?dd ?uu ?_);tb_rel;(case hs=>lcg_sub));intro ql9' qe9' qh' qtk' qF' qN' qhO';(try k_sweep)))|(k_here;(with_reducible show wpAny _ _ (exec (Stmt.For (PySem.Expr.Name _ _) (PySem.Expr.Subscript _ _ _) _ _ _) _) _ _ _);(rename Fr _ _ _ _=>qlF');(with_unfolding_all refine' no_implicit_lambda% (For_turns qlF' ?_);k_whole))|walk1|(refine StD.nx (by with_reducible assumption) _ ?_)|(refine StD.rt (by with_reducible assumption) _ _ ?_)|(refine Ups.up (by with_reducible assumption) _ _ ?_;(try dsimp only))|(k_end;wrow_close)|dsimp only|(leave1;try dsimp only))
  rename Fr _ _ _ _=>F9
  rename News _ _ _ _=>N9
  refine' told_loop led (.tuple [.str (Str.ofString "alt"),tdC x,.tuple [.str (Str.ofString "empty")]]) ?hm ?hc ?hd (by rfl) F9 N9 ?step ?fin
  case hm=>k_mem
  case hc=>rfl
  case hd=>rfl
  case step =>
    clear F9 N9
    intro h₁ tk₁ I oI F₁ N₁ off
    replace off : Off _ I:=off
    repeat' (first|(k_unfold;(try dsimp only))|(k_here;(with_reducible show wpAny _ _ (call (Value.ref 460) _) _ _ _);k_dflt (refine' no_implicit_lambda% (use_ronV (fun _ _ h=>dat_ref h) (told_e _ _ (‹NodeIn _ .empty (.ref _)›)) ?hs ?B ?F ?X ?N ?T ?kk ?dd ?uu ?_);tb_rel;(case hs=>lcg_sub));intro qq9' qtl9' qh' qtk' qF' qN' qhV' qhO';(try simp only [List.cons_append,List.nil_append,List.append_assoc] at qN');(try k_sweep))|(k_here;(with_reducible show wpAny _ _ (getAttr (Value.ref _) (PySem.Str.ofString "name") _) _ _ _);k_dflt (refine' no_implicit_lambda% (attr_name ?hK ?F ?X ?N ?m1 ?m2 ?hl ?_);(case F=>k_asm);(case X=>k_asm);(case N=>k_asm);(case m1 | m2=>k_mem);(case hK=>first | assumption | exact kind_cat _ | exact kind_alt _);(case hl=>first | assumption | rfl));intro qtk')|walk1|(refine StD.nx (by with_reducible assumption) _ ?_)|(refine StD.rt (by with_reducible assumption) _ _ ?_)|(refine Ups.up (by with_reducible assumption) _ _ ?_;(try dsimp only))|(k_end;wrow_close)|dsimp only|(leave1;try dsimp only))
    exact turn_told (by assumption) (by assumption) off (by assumption) (by assumption) (by assumption) (by assumption) (by assumption)
  case fin =>
    clear F9 N9
    intro r ob tl nw h' tk' F' N' z1 z2 z3
    repeat' (first|(k_unfold;(try dsimp only))|walk1|(refine StD.nx (by with_reducible assumption) _ ?_)|(refine StD.rt (by with_reducible assumption) _ _ ?_)|(refine Ups.up (by with_reducible assumption) _ _ ?_;(try dsimp only))|(k_end;wrow_close)|(dsimp only;walk1)|(leave1;try dsimp only))
    exact fin_ro (by assumption) (by assumption) tl z1 z2 z3
end
set_option maxHeartbeats 2000000
theorem key_sat (w : World) (led : Led) {cs : Addr} {x : Int} (h : CsIn led cs x) : Sat w 425 2 [.ref cs] led (RO led (fun tl r=>tl = [] ∧ ∃ sp,r = .ref sp ∧ DatIn led (.ref sp) (.tuple [.tuple [.int x,.int x]]))):=by
  obtain ⟨dcs,h,u1,sp,p,t1,t2,m1,m2,m3,m4⟩:=h
  refine' sat_of (binds:=[(Str.ofString "self",.ref cs)]) ?ho ?hcd ?hn ?hbind ?hloc ?h ?hcell ?hco ?hgen ?hk
  (case ho=>k_is);(case hcd=>k_is);(case hn=>first | decide | lia);(case hbind=>intro s X;first | exact BindsTo.of_eq rfl | exact binds_K X rfl (by k_is) rfl rfl rfl);(case hloc=>exact locs rfl)
  (case hcell=>decide);(case hco=>rfl);(case hgen=>rfl);(case hk=>rfl)
  intros
  repeat' (first|(k_unfold;(try dsimp only))|(k_here;(with_reducible show wpAny _ _ (eval (PySem.Expr.Attribute (PySem.Expr.Name _ _) _ _) _) _ _ _);k_dflt (refine' no_implicit_lambda% (at_own ?O ?F ?X ?N ?hm ?m1 ?m2 ?hl ?hv ?_);(case F=>k_asm);(case X=>k_in);(case N=>k_asm);(case hm=>exact rfl);(case m1 | m2=>k_mem);(case hl=>exact rfl);(case hv=>k_handed);(case O=>first | exact ow1 _ | exact ow5 _ | exact ow6 _ | exact ow2 _ | exact ow3 _ | exact ow4 _ | exact ⟨by k_is,by k_is,_,by k_is,by k_is⟩)))|walk1|(refine StD.nx (by with_reducible assumption) _ ?_)|(refine StD.rt (by with_reducible assumption) _ _ ?_)|(refine Ups.up (by with_reducible assumption) _ _ ?_;(try dsimp only))|(k_end;wrow_close)|dsimp only|(leave1;try dsimp only))
  rename News _ _ _ _=>N9
  refine fin_ro (by assumption) N9 [] (fun q hq=>by simpa using hq) (allOff_of fun _ _ _ h=>by cases h) ⟨rfl,sp,rfl,.tuple m3 (.cons (.tuple m4 (.cons (.int _ _) (.cons (.int _ _) .nil))) .nil)⟩
theorem sign1 (w : World) (x : Nat) (u : Tok) (hx : x ≤ 127) : Sat w 920 14 [.str ⟨#[x]⟩ u] [] (fun r own'=>DatIn own' r (tdC x)):=by
  refine' sat_of (binds:=[(Str.ofString "letter",.str ⟨#[x]⟩ u)]) ?ho ?hcd ?hn ?hbind ?hloc ?h ?hcell ?hco ?hgen ?hk
  (case ho=>k_is);(case hcd=>k_is);(case hn=>first | decide | lia);(case hbind=>intro s X;first | exact BindsTo.of_eq rfl | exact binds_K X rfl (by k_is) rfl rfl rfl);(case hloc=>exact locs rfl)
  (case hcell=>decide);(case hco=>rfl);(case hgen=>rfl);(case hk=>rfl)
  intros
  repeat' ((fail_if_success (with_reducible show wpAny _ _ (getMethod _ (Str.ofString "key") _) _ _ _));first|(k_unfold;(try dsimp only))|(k_end;wrow_close)|(k_here;(with_reducible show wpAny _ _ (call (Value.ref 311) _) _ _ _);k_dflt (refine' no_implicit_lambda% (use_newR (of1 _ _ _ (by assumption)) ?B ?F ?X ?N ?T ?kk ?dd ?uu ?_);tb_rel);intro qcs' qtl' qh' qtk' qF' qN' qhC' qhO';(try simp only [List.cons_append,List.nil_append,List.append_assoc] at qN');(try k_sweep))|walk1|(refine StD.nx (by with_reducible assumption) _ ?_)|(refine StD.rt (by with_reducible assumption) _ _ ?_)|(refine Ups.up (by with_reducible assumption) _ _ ?_;(try dsimp only))|(k_end;wrow_close)|dsimp only|(leave1;try dsimp only))
  obtain ⟨dcs,h,u1,sp,p,t1,t2,m1,m2,m3,m4⟩:=id ‹CsIn _ _ _›
  repeat' (first|(k_unfold;(try dsimp only))|(k_here;(with_reducible show wpAny _ _ (call (Value.ref 425) _) _ _ _);k_dflt (refine' no_implicit_lambda% (use_ron (key_sat _ _ (‹CsIn _ _ _›)) ?hs ?B ?F ?X ?N ?T ?kk ?dd ?uu ?_);tb_rel;(case hs=>lcg_sub));intro qr9' qtl9' qh' qtk' qF' qN' qhV' qhO';(refine no_implicit_lambda% (gen fun qG qhG=>?_));k_dflt (obtain ⟨qe8',qsp9',qe9',qhD'⟩:=qhV');subst qe8';subst qe9';(refine no_implicit_lambda% (qhG ?_));(clear qhG);(try simp only [List.cons_append,List.nil_append,List.append_assoc,List.append_nil] at qN');(try k_sweep))|walk1|(refine StD.nx (by with_reducible assumption) _ ?_)|(refine StD.rt (by with_reducible assumption) _ _ ?_)|(refine Ups.up (by with_reducible assumption) _ _ ?_;(try dsimp only))|(k_end;wrow_close)|dsimp only|(leave1;try dsimp only))
  rename News _ _ _ _=>N9
  exact done (by assumption) N9 (.tuple (.head _) (.cons (.str _ _) (.cons (DatIn.mono (fun _ h=>.tail _ h) ‹DatIn _ _ _›) .nil)))
section
variable (w : World) (u : Tok)
theorem sign_a : Sat w 920 14 [.str (Str.ofString "a") u] [] (fun r own'=>DatIn own' r (tdC 97)):=by
  rw [show Str.ofString "a" = ⟨#[97]⟩ by decide +kernel];exact sign1 w 97 u (by decide)
theorem sign_b : Sat w 920 14 [.str (Str.ofString "b") u] [] (fun r own'=>DatIn own' r (tdC 98)):=by
  rw [show Str.ofString "b" = ⟨#[98]⟩ by decide +kernel];exact sign1 w 98 u (by decide)
theorem sign_c : Sat w 920 14 [.str (Str.ofString "c") u] [] (fun r own'=>DatIn own' r (tdC 99)):=by
  rw [show Str.ofString "c" = ⟨#[99]⟩ by decide +kernel];exact sign1 w 99 u (by decide)
theorem sign_x : Sat w 920 14 [.str (Str.ofString "x") u] [] (fun r own'=>DatIn own' r (tdC 120)):=by
  rw [show Str.ofString "x" = ⟨#[120]⟩ by decide +kernel];exact sign1 w 120 u (by decide)
end
set_option maxHeartbeats 2000000
theorem sub_app {a b c : Led} (h1 : ∀ q ∈ a,q ∈ c) (h2 : ∀ q ∈ b,q ∈ c) : ∀ q ∈ a ++ b,q ∈ c:=fun q hq=>(List.mem_append.mp hq).elim (h1 q) (h2 q)
local macro_rules | `(tactic| k_memK)=>`(tactic| with_reducible first | assumption|(apply List.mem_cons_of_mem;k_memK)|(apply List.mem_append_left;k_memK)|(apply List.mem_append_right;k_memK))
theorem sub_nil {c : Led} : ∀ q ∈ ([] : Led),q ∈ c:=fun _ h=>by cases h
theorem sub_cons {x : Addr × Obj} {b c : Led} (h1 : x ∈ c) (h2 : ∀ q ∈ b,q ∈ c) : ∀ q ∈ x :: b,q ∈ c:=fun q hq=>(List.mem_cons.mp hq).elim (fun e=>e ▸ h1) (h2 q)
local macro_rules | `(tactic| lcg_sub)=>`(tactic| first|(intro p hp;k_memK;done)|with_reducible exact sub_nil|((with_reducible refine sub_app ?a ?b);(case a=>lcg_sub);(case b=>lcg_sub))|((with_reducible refine sub_cons ?a ?b);(case a=>k_mem);(case b=>lcg_sub)))
theorem ne_dat1 {prog : Program} {w : World} {A : Around} {E : Value → Shared → Prop} {s : Shared} {h₀ : Heap} {L a b : Addr} {news n₁ n₂ : Led} {d : Dat} {Q : Value → Shared → Prop} (N : News h₀ L s.heap news) (Da : DatIn n₁ (.ref a) d) (sa : ∀ p ∈ n₁,p ∈ news) (Db : DatIn n₂ (.ref b) d) (sb : ∀ p ∈ n₂,p ∈ news) (ha : kqdOk 8 d = true) (hu : A.units + 64 < cLine) (h : Q (.bool false) s) : wpAny (model prog w) A (compareOp .NotEq (.ref a) (.ref b)) Q E s :=
  ne_dat (v:=true) N Da sa Db sb ha ha hu ⟨fun _=>rfl,fun _=>rfl⟩ h
theorem eq_dat1 {prog : Program} {w : World} {A : Around} {E : Value → Shared → Prop} {s : Shared} {h₀ : Heap} {L a b : Addr} {news n₁ n₂ : Led} {d : Dat} {Q : Value → Shared → Prop} (N : News h₀ L s.heap news) (Da : DatIn n₁ (.ref a) d) (sa : ∀ p ∈ n₁,p ∈ news) (Db : DatIn n₂ (.ref b) d) (sb : ∀ p ∈ n₂,p ∈ news) (ha : kqdOk 8 d = true) (hu : A.units + 64 < cLine) (h : Q (.bool true) s) : wpAny (model prog w) A (compareOp .Eq (.ref a) (.ref b)) Q E s :=
  eq_dat (v:=true) N Da sa Db sb ha ha hu ⟨fun _=>rfl,fun _=>rfl⟩ h
def wrapI (k : Int) (T : Tr) : Tr:=if k = 0 then .star T else if k = 1 then .plus T else if k = 2 then .opt T else .cat (.alt T (.chars 98)) (.chars 99)
def treeR (T : Tr) : List Int → Tr
  | []=>T
  | k :: l=>wrapI k (treeR T l)
theorem hd_wrap (k : Int) (T : Tr) : ∃ x,hdT (wrapI k T) = some x:=by
  unfold wrapI;split
  · exact ⟨_,rfl⟩
  · split
    · exact ⟨_,rfl⟩
    · split <;> exact ⟨_,rfl⟩
theorem hd_treeR {T : Tr} (h : ∃ x,hdT T = some x) : ∀ l,∃ x,hdT (treeR T l) = some x
  | []=>h
  | k :: l=>hd_wrap k _
abbrev isoM (a : Addr) (ol : Option Value) (m0 : Str → Option Value) : Str → Option Value:=fun y=>if y = Str.ofString "here" then some (.ref a) else if y = Str.ofString "layer" then ol else m0 y
def IsJ (led : Led) (T : Tr) (m0 : Str → Option Value) (news : Led) (m' : Str → Option Value) (nw : Led) : Prop:=nw = news ∧ ∃ a ol,m' = isoM a ol m0 ∧ NodeIn led T (.ref a)
theorem isoM_start (a : Addr) (m0 : Str → Option Value) : (fun y=>if y = Str.ofString "here" then some (.ref a) else m0 y) = isoM a (m0 (Str.ofString "layer")) m0:=by
  funext y
  by_cases h : y = Str.ofString "layer"
  · subst h;rfl
  · simp [isoM,h]
theorem isoM_1 (a b : Addr) (k : Option Value) (ol : Option Value) (m0 : Str → Option Value) : (fun y=>if y = Str.ofString "here" then some (.ref b) else if y = Str.ofString "layer" then k else isoM a ol m0 y) = isoM b k m0:=by
  funext y
  by_cases h1 : y = Str.ofString "here"
  · simp only [isoM,if_pos h1]
  · by_cases h2 : y = Str.ofString "layer"
    · simp only [isoM,if_neg h1,if_pos h2]
    · simp only [isoM,if_neg h1,if_neg h2]
theorem isoM_2 (a b : Addr) (c : Value) (k : Option Value) (ol : Option Value) (m0 : Str → Option Value) : (fun y=>if y = Str.ofString "here" then some (.ref b) else if y = Str.ofString "here" then some c else if y = Str.ofString "layer" then k else isoM a ol m0 y) = isoM b k m0:=by
  funext y
  by_cases h1 : y = Str.ofString "here"
  · simp only [isoM,if_pos h1]
  · by_cases h2 : y = Str.ofString "layer"
    · simp only [isoM,if_neg h1,if_pos h2]
    · simp only [isoM,if_neg h1,if_neg h2]
theorem ints_look {vs : List Value} {ns : List Int} (h : IntsAre vs ns) : vs.length = ns.length ∧ ∀ (i : Nat) (v : Value),vs[i]? = some v → ∃ (k : Int) (t : Tok),ns[i]? = some k ∧ v = Value.int k t :=
  ⟨by have:=h.sizeZ;simp at this;lia,fun i v e=>by obtain ⟨n,t,e1,e2⟩:=IntsAre.at h i v e;exact ⟨n,t,e2,e1⟩⟩
section
variable {prog : Program} {w : World} {A : Around} {E : Value → Shared → Prop} {s : Shared} {h₀ : Heap} {env : Env} {news : Led} {body : List Stmt} {Q : Flow → Shared → Prop}
theorem iso_loop {m0 : Str → Option Value} {x : Str} {px : Pos} {ax : Addr} {lo : Obj} {ws : List Value} {n : Nat} {rl : List Int} {a : Addr} (led : Led) (T0 : Tr) (hm : (ax,lo) ∈ news) (hc : lo.cls = .type "list") (hd : lo.data = .seq ws.toArray n) (hh : A.handled = none) (hi : IntsAre ws rl) (hr : ∀ k ∈ rl,0 ≤ k ∧ k ≤ 3)
    (F : Fr h₀ env.locals s.heap (fun y=>if y = Str.ofString "here" then some (.ref a) else m0 y)) (N : News h₀ env.locals s.heap news) (hn : NodeIn led (treeR T0 rl) (.ref a))
    (step : ∀ (k : Int) (t : Tok) rl' a ol h₁ tk₁ (I : Addr) oI,(k = 0 ∨ k = 1 ∨ k = 2 ∨ k = 3) → NodeIn led (wrapI k (treeR T0 rl')) (.ref a) → Fr h₀ env.locals h₁ (isoM a ol m0) → News h₀ env.locals h₁ ((I,oI) :: news) → (∀ p ∈ news,p.1 ≠ I) →
      wpAny (model prog w) A (assign (.Name x px) env (.int k t)) (fun _ s₃=>wpAny (model prog w) A (execs body env) (TurnEnd h₀ env.locals I oI (IsJ led (treeR T0 rl') m0 news) { s with heap:=h₁,toks:=tk₁ } Q) E s₃) E { s with heap:=h₁,toks:=tk₁ })
    (fin : ∀ a ol h' tk,Fr h₀ env.locals h' (isoM a ol m0) → News h₀ env.locals h' news → NodeIn led T0 (.ref a) → Q .next { s with heap:=h',toks:=tk }) :
    wpAny (model prog w) A (pyIter (.ref ax)) (fun it s₂=>TurnsAt prog w A h₀ env (.Name x px) body Q E it s₂) E s:=by
  obtain ⟨hlen,hget⟩:=ints_look hi
  refine list_turns hm hc hd hh F N (fun i=>IsJ led (treeR T0 (rl.drop i)) m0 news) (fun i m nw h=>by obtain ⟨rfl,_⟩:=h;exact hm) ⟨rfl,a,_,isoM_start a m0,hn⟩ (fun i v m₁ news₁ h₁ tk₁ I oI hv J F₁ N₁ off=>?_) (fun h' tk m' news' F' N' J=>?_)
  · obtain ⟨rfl,a,ol,rfl,hn'⟩:=J
    obtain ⟨k,t,hk,rfl⟩:=hget i v hv
    have hlt : i < rl.length:=by
      rcases Nat.lt_or_ge i rl.length with h | h
      · exact h
      · rw [List.getElem?_eq_none h] at hk;cases hk
    have ek : rl[i] = k:=by rw [List.getElem?_eq_getElem hlt] at hk;exact Option.some.inj hk
    have ed : rl.drop i = k :: rl.drop (i + 1):=by rw [List.drop_eq_getElem_cons hlt,ek]
    rw [ed] at hn'
    have hb:=hr k (ek ▸ List.getElem_mem hlt)
    exact step k t (rl.drop (i + 1)) a ol h₁ tk₁ I oI (by lia) hn' F₁ N₁ off
  · obtain ⟨rfl,a,ol,rfl,hn'⟩:=J
    rw [hlen,List.drop_length] at hn'
    exact fin a ol h' tk F' N' hn'
end
theorem iso_next {h₀ h' : Heap} {L I a : Addr} {oI : Obj} {led news all : Led} {T : Tr} {m0 m' : Str → Option Value} {s₁ : Shared} {Q : Flow → Shared → Prop} {tk : Nat} {ol : Option Value} (F : Fr h₀ L h' m') (N : News h₀ L h' all) (hs : ∀ q ∈ (I,oI) :: news,q ∈ all) (off : ∀ p ∈ news,p.1 ≠ I) (em : m' = isoM a ol m0) (hn : NodeIn led T (.ref a)) :
    TurnEnd h₀ L I oI (IsJ led T m0 news) s₁ Q .next { s₁ with heap:=h',toks:=tk }:=turn_any F N news hs off ⟨rfl,a,ol,em,hn⟩
inductive BaseT : Tr → Dat → Prop
  | a : BaseT (.chars 97) (tdC 97)
  | ab : BaseT (.cat (.chars 97) (.chars 98)) (.tuple [.str (Str.ofString "cat"),tdC 97,tdC 98])
  | al : BaseT (.alt (.chars 97) .empty) (.tuple [.str (Str.ofString "alt"),tdC 97,.tuple [.str (Str.ofString "empty")]])
  | em : BaseT .empty (.tuple [.str (Str.ofString "empty")])
theorem BaseT.hd {T : Tr} {D : Dat} (h : BaseT T D) : ∃ x,hdT T = some x:=by cases h <;> exact ⟨_,rfl⟩
section
variable (w : World) (led : Led) {a ly td : Addr} {vs : List Value} {ns : List Int} {e : Nat} {T0 : Tr} {D : Dat}
theorem is_so (hB : BaseT T0 D) (hn : NodeIn led (treeR T0 ns.reverse) (.ref a)) (hly : (ly,W.listOf vs.toArray e) ∈ led) (hi : IntsAre vs ns) (hr : ∀ k ∈ ns,0 ≤ k ∧ k ≤ 3) (hz : ns.length ≤ 200) (hD : DatIn led (.ref td) D) :
    Sat w 955 30 [.ref a,.ref ly,.ref td] led (RO led (fun tl r=>r = .bool true)):=by
  have hsz : vs.toArray.size ≤ sizeLine:=by
    have:=(ints_look hi).1
    have h2 : (200 : Nat) ≤ sizeLine:=by decide
    simp;lia
  refine' sat_of (binds:=[(Str.ofString "given",.ref a),(Str.ofString "layers",.ref ly),(Str.ofString "tree",.ref td)]) ?ho ?hcd ?hn ?hbind ?hloc ?h ?hcell ?hco ?hgen ?hk
  (case ho=>k_is);(case hcd=>k_is);(case hn=>first | decide | lia);(case hbind=>intro s X;first | exact BindsTo.of_eq rfl | exact binds_K X rfl (by k_is) rfl rfl rfl);(case hloc=>exact locs rfl)
  (case hcell=>decide);(case hco=>rfl);(case hgen=>rfl);(case hk=>rfl)
  intros
  repeat' (first|(k_unfold;(try dsimp only))|(k_here;(with_reducible show wpAny _ _ (exec (Stmt.For (PySem.Expr.Name _ _) (PySem.Expr.Subscript _ _ _) _ _ _) _) _ _ _);(rename Fr _ _ _ _=>qlF');(with_unfolding_all refine' no_implicit_lambda% (For_turns qlF' ?_);k_whole))|walk1|(refine StD.nx (by with_reducible assumption) _ ?_)|(refine StD.rt (by with_reducible assumption) _ _ ?_)|(refine Ups.up (by with_reducible assumption) _ _ ?_;(try dsimp only))|(k_end;wrow_close)|dsimp only|(leave1;try dsimp only))
  rename Fr _ _ _ _=>F9
  rename News _ _ _ _=>N9
  rename IntsAre _ _=>I9
  refine' iso_loop led T0 ?hm ?hc ?hd (by rfl) I9 ?hr F9 N9 hn ?step ?fin
  case hm=>k_mem
  case hc=>rfl
  case hd=>rfl
  case hr=>exact fun k hk=>hr k (List.mem_reverse.mp hk)
  case step =>
    clear F9 N9
    intro k t rl' a9 ol h₁ tk₁ I oI hk hn' F₁ N₁ off
    refine gen fun G hG=>?_
    replace off : Off _ I:=off
    obtain ⟨y9,hy9⟩:=hd_treeR hB.hd rl'
    rcases hk with rfl | rfl | rfl | rfl
    · obtain ⟨x1,d1,h1,u1,vb,e1,m1,m2,n1⟩ : NodeIn led (.star (treeR T0 rl')) (.ref a9):=hn'
      cases e1
      obtain ⟨b9,rfl⟩:=ref_of hy9 n1
      refine hG ?_;clear hG
      as_aux_lemma =>
        repeat' (first|(k_unfold;(try dsimp only))|(k_here;(with_reducible show wpAny _ _ (eval (PySem.Expr.Attribute (PySem.Expr.Name _ _) _ _) _) _ _ _);k_dflt (refine' no_implicit_lambda% (at_own ?O ?F ?X ?N ?hm ?m1 ?m2 ?hl ?hv ?_);(case F=>k_asm);(case X=>k_in);(case N=>k_asm);(case hm=>exact rfl);(case m1 | m2=>k_mem);(case hl=>exact rfl);(case hv=>k_handed);(case O=>first | exact ow1 _ | exact ow5 _ | exact ow6 _ | exact ow2 _ | exact ow3 _ | exact ow4 _ | exact ⟨by k_is,by k_is,_,by k_is,by k_is⟩)))|walk1|(refine StD.nx (by with_reducible assumption) _ ?_)|(refine StD.rt (by with_reducible assumption) _ _ ?_)|(refine Ups.up (by with_reducible assumption) _ _ ?_;(try dsimp only))|(k_end;wrow_close)|dsimp only|(leave1;try dsimp only))
        exact iso_next (by assumption) (by assumption) (fun q hq=>.tail _ hq) off (isoM_1 _ _ _ _ _) n1
    · obtain ⟨x1,d1,h1,u1,vb,e1,m1,m2,n1⟩ : NodeIn led (.plus (treeR T0 rl')) (.ref a9):=hn'
      cases e1
      obtain ⟨b9,rfl⟩:=ref_of hy9 n1
      refine hG ?_;clear hG
      as_aux_lemma =>
        repeat' (first|(k_unfold;(try dsimp only))|(k_here;(with_reducible show wpAny _ _ (eval (PySem.Expr.Attribute (PySem.Expr.Name _ _) _ _) _) _ _ _);k_dflt (refine' no_implicit_lambda% (at_own ?O ?F ?X ?N ?hm ?m1 ?m2 ?hl ?hv ?_);(case F=>k_asm);(case X=>k_in);(case N=>k_asm);(case hm=>exact rfl);(case m1 | m2=>k_mem);(case hl=>exact rfl);(case hv=>k_handed);(case O=>first | exact ow1 _ | exact ow5 _ | exact ow6 _ | exact ow2 _ | exact ow3 _ | exact ow4 _ | exact ⟨by k_is,by k_is,_,by k_is,by k_is⟩)))|walk1|(refine StD.nx (by with_reducible assumption) _ ?_)|(refine StD.rt (by with_reducible assumption) _ _ ?_)|(refine Ups.up (by with_reducible assumption) _ _ ?_;(try dsimp only))|(k_end;wrow_close)|dsimp only|(leave1;try dsimp only))
        exact iso_next (by assumption) (by assumption) (fun q hq=>.tail _ hq) off (isoM_1 _ _ _ _ _) n1
    · obtain ⟨x1,d1,h1,u1,vb,e1,m1,m2,n1⟩ : NodeIn led (.opt (treeR T0 rl')) (.ref a9):=hn'
      cases e1
      obtain ⟨b9,rfl⟩:=ref_of hy9 n1
      refine hG ?_;clear hG
      as_aux_lemma =>
        repeat' (first|(k_unfold;(try dsimp only))|(k_here;(with_reducible show wpAny _ _ (eval (PySem.Expr.Attribute (PySem.Expr.Name _ _) _ _) _) _ _ _);k_dflt (refine' no_implicit_lambda% (at_own ?O ?F ?X ?N ?hm ?m1 ?m2 ?hl ?hv ?_);(case F=>k_asm);(case X=>k_in);(case N=>k_asm);(case hm=>exact rfl);(case m1 | m2=>k_mem);(case hl=>exact rfl);(case hv=>k_handed);(case O=>first | exact ow1 _ | exact ow5 _ | exact ow6 _ | exact ow2 _ | exact ow3 _ | exact ow4 _ | exact ⟨by k_is,by k_is,_,by k_is,by k_is⟩)))|walk1|(refine StD.nx (by with_reducible assumption) _ ?_)|(refine StD.rt (by with_reducible assumption) _ _ ?_)|(refine Ups.up (by with_reducible assumption) _ _ ?_;(try dsimp only))|(k_end;wrow_close)|dsimp only|(leave1;try dsimp only))
        exact iso_next (by assumption) (by assumption) (fun q hq=>.tail _ hq) off (isoM_1 _ _ _ _ _) n1
    · obtain ⟨x1,d1,h1,u1,h2,u2,vl,vr,e1,m1,m2,n1,nr⟩ : NodeIn led (.cat (.alt (treeR T0 rl') (.chars 98)) (.chars 99)) (.ref a9):=hn'
      cases e1
      obtain ⟨x2,d2,h3,u3,h4,u4,vl2,vr2,rfl,m3,m4,n2,nr2⟩:=n1
      obtain ⟨b9,rfl⟩:=ref_of hy9 n2
      replace nr : ChrIn led vr 99:=nr
      replace nr2 : ChrIn led vr2 98:=nr2
      obtain ⟨c1,d3,h5,u5,cs1,rfl,m5,m6,_⟩:=id nr
      obtain ⟨c2,d4,h6,u6,cs2,rfl,m7,m8,_⟩:=id nr2
      refine hG ?_;clear hG
      as_aux_lemma =>
        repeat' (first|(k_unfold;(try dsimp only))|(k_here;(with_reducible show wpAny _ _ (compareOp CmpOp.NotEq (Value.ref _) (Value.ref _)) _ _ _);k_dflt (refine' no_implicit_lambda% (ne_dat1 ?N ?Da ?sa ?Db ?sb ?ha ?hu ?_);(case N=>k_asm);(case Da=>assumption);(case Db=>assumption);(case sa=>lcg_sub);(case sb=>lcg_sub);(case ha=>first | rfl | decide +kernel);(case hu=>ke_room)))|((with_reducible show wpAny _ _ (call _ _) _ _ _);first|(k_here;(with_reducible show wpAny _ _ (call (Value.ref 920) [Value.str (PySem.Str.ofString "c") _]) _ _ _);k_dflt (refine' no_implicit_lambda% (use_newV (fun _ _ h=>dat_ref h) (sign_c _ _) ?B ?F ?X ?N ?T ?kk ?dd ?uu ?_);tb_rel);intro qq9' qtl9' qh' qtk' qF' qN' qhV' qhO';(try simp only [List.cons_append,List.nil_append,List.append_assoc] at qN');(try k_sweep))|(k_here;(with_reducible show wpAny _ _ (call (Value.ref 920) [Value.str (PySem.Str.ofString "b") _]) _ _ _);k_dflt (refine' no_implicit_lambda% (use_newV (fun _ _ h=>dat_ref h) (sign_b _ _) ?B ?F ?X ?N ?T ?kk ?dd ?uu ?_);tb_rel);intro qq9' qtl9' qh' qtk' qF' qN' qhV' qhO';(try simp only [List.cons_append,List.nil_append,List.append_assoc] at qN');(try k_sweep))|(k_here;(with_reducible show wpAny _ _ (call (Value.ref 512) _) _ _ _);k_dflt (refine' no_implicit_lambda% (use_ronV (fun _ _ h=>dat_ref h) (told_chars _ _ (‹ChrIn _ (.ref _) _›)) ?hs ?B ?F ?X ?N ?T ?kk ?dd ?uu ?_);tb_rel;(case hs=>lcg_sub));intro qq9' qtl9' qh' qtk' qF' qN' qhV' qhO';(try simp only [List.cons_append,List.nil_append,List.append_assoc] at qN');(try k_sweep)))|(k_here;(with_reducible show wpAny _ _ (eval (PySem.Expr.Attribute (PySem.Expr.Name _ _) _ _) _) _ _ _);k_dflt (refine' no_implicit_lambda% (at_own ?O ?F ?X ?N ?hm ?m1 ?m2 ?hl ?hv ?_);(case F=>k_asm);(case X=>k_in);(case N=>k_asm);(case hm=>exact rfl);(case m1 | m2=>k_mem);(case hl=>exact rfl);(case hv=>k_handed);(case O=>first | exact ow1 _ | exact ow5 _ | exact ow6 _ | exact ow2 _ | exact ow3 _ | exact ow4 _ | exact ⟨by k_is,by k_is,_,by k_is,by k_is⟩)))|walk1|(refine StD.nx (by with_reducible assumption) _ ?_)|(refine StD.rt (by with_reducible assumption) _ _ ?_)|(refine Ups.up (by with_reducible assumption) _ _ ?_;(try dsimp only))|(k_end;wrow_close)|dsimp only|(leave1;try dsimp only))
        refine iso_next (by assumption) (by assumption) ?s1 off (isoM_2 _ _ _ _ _ _) n2
        lcg_sub
  case fin =>
    clear F9 N9
    intro a9 ol h' tk' F' N' n1
    refine gen fun G9 hG9=>?_
    cases hB with
    | a =>
      replace n1 : ChrIn led (.ref a9) 97:=n1
      obtain ⟨c1,d3,h5,u5,cs1,e1,m5,m6,_⟩:=id n1
      cases e1
      refine hG9 ?_;clear hG9
      as_aux_lemma =>
        repeat' (first|(k_unfold;(try dsimp only))|(k_here;(with_reducible show wpAny _ _ (compareOp CmpOp.Eq (Value.ref _) (Value.ref _)) _ _ _);k_dflt (refine' no_implicit_lambda% (eq_dat1 ?N ?Da ?sa ?Db ?sb ?ha ?hu ?_);(case N=>k_asm);(case Da=>assumption);(case Db=>assumption);(case sa=>lcg_sub);(case sb=>lcg_sub);(case ha=>first | rfl | decide +kernel);(case hu=>ke_room)))|(k_here;(with_reducible show wpAny _ _ (call (Value.ref 512) _) _ _ _);k_dflt (refine' no_implicit_lambda% (use_ronV (fun _ _ h=>dat_ref h) (told_chars _ _ (‹ChrIn _ (.ref _) _›)) ?hs ?B ?F ?X ?N ?T ?kk ?dd ?uu ?_);tb_rel;(case hs=>lcg_sub));intro qq9' qtl9' qh' qtk' qF' qN' qhV' qhO';(try simp only [List.cons_append,List.nil_append,List.append_assoc] at qN');(try k_sweep))|walk1|(refine StD.nx (by with_reducible assumption) _ ?_)|(refine StD.rt (by with_reducible assumption) _ _ ?_)|(refine Ups.up (by with_reducible assumption) _ _ ?_;(try dsimp only))|(k_end;wrow_close)|dsimp only|(leave1;try dsimp only))
        rename News _ _ _ _=>N9
        exact fin_ro (by assumption) N9 [] (by lcg_sub) (allOff_of fun _ _ _ h=>by cases h) rfl
    | ab =>
      obtain ⟨x1,d1,h1,u1,h2,u2,vl,vr,e1,m1,m2,n1,nr⟩:=n1
      cases e1
      replace nr : ChrIn led vr 98:=nr
      replace n1 : ChrIn led vl 97:=n1
      obtain ⟨c1,d3,h5,u5,cs1,rfl,m5,m6,_⟩:=id nr
      obtain ⟨c2,d4,h6,u6,cs2,rfl,m7,m8,_⟩:=id n1
      refine hG9 ?_;clear hG9
      as_aux_lemma =>
        repeat' (first|(k_unfold;(try dsimp only))|(k_here;(with_reducible show wpAny _ _ (call (Value.ref 545) _) _ _ _);k_dflt (refine' no_implicit_lambda% (use_ronV (fun _ _ h=>dat_ref h) (told_cat _ _ ?ma ?md ?hb ?hc) ?hs ?B ?F ?X ?N ?T ?kk ?dd ?uu ?_);(case ma=>assumption);(case md=>assumption);(case hb=>assumption);(case hc=>assumption);tb_rel;(case hs=>lcg_sub));intro qq9' qtl9' qh' qtk' qF' qN' qhV' qhO';(try simp only [List.cons_append,List.nil_append,List.append_assoc] at qN');(try k_sweep))|(k_here;(with_reducible show wpAny _ _ (compareOp CmpOp.Eq (Value.ref _) (Value.ref _)) _ _ _);k_dflt (refine' no_implicit_lambda% (eq_dat1 ?N ?Da ?sa ?Db ?sb ?ha ?hu ?_);(case N=>k_asm);(case Da=>assumption);(case Db=>assumption);(case sa=>lcg_sub);(case sb=>lcg_sub);(case ha=>first | rfl | decide +kernel);(case hu=>ke_room)))|walk1|(refine StD.nx (by with_reducible assumption) _ ?_)|(refine StD.rt (by with_reducible assumption) _ _ ?_)|(refine Ups.up (by with_reducible assumption) _ _ ?_;(try dsimp only))|(k_end;wrow_close)|dsimp only|(leave1;try dsimp only))
        rename News _ _ _ _=>N9
        exact fin_ro (by assumption) N9 [] (by lcg_sub) (allOff_of fun _ _ _ h=>by cases h) rfl
    | al =>
      obtain ⟨x1,d1,h1,u1,h2,u2,vl,vr,e1,m1,m2,n1,nr⟩:=n1
      cases e1
      replace n1 : ChrIn led vl 97:=n1
      obtain ⟨c1,d3,n5,rfl,m5,m6⟩:=id nr
      obtain ⟨c2,d4,h6,u6,cs2,rfl,m7,m8,_⟩:=id n1
      refine hG9 ?_;clear hG9
      as_aux_lemma =>
        repeat' (first|(k_unfold;(try dsimp only))|(k_here;(with_reducible show wpAny _ _ (call (Value.ref 545) _) _ _ _);k_dflt (refine' no_implicit_lambda% (use_ronV (fun _ _ h=>dat_ref h) (told_alt _ _ ?ma ?md ?hb ?hc) ?hs ?B ?F ?X ?N ?T ?kk ?dd ?uu ?_);(case ma=>assumption);(case md=>assumption);(case hb=>assumption);(case hc=>assumption);tb_rel;(case hs=>lcg_sub));intro qq9' qtl9' qh' qtk' qF' qN' qhV' qhO';(try simp only [List.cons_append,List.nil_append,List.append_assoc] at qN');(try k_sweep))|(k_here;(with_reducible show wpAny _ _ (compareOp CmpOp.Eq (Value.ref _) (Value.ref _)) _ _ _);k_dflt (refine' no_implicit_lambda% (eq_dat1 ?N ?Da ?sa ?Db ?sb ?ha ?hu ?_);(case N=>k_asm);(case Da=>assumption);(case Db=>assumption);(case sa=>lcg_sub);(case sb=>lcg_sub);(case ha=>first | rfl | decide +kernel);(case hu=>ke_room)))|walk1|(refine StD.nx (by with_reducible assumption) _ ?_)|(refine StD.rt (by with_reducible assumption) _ _ ?_)|(refine Ups.up (by with_reducible assumption) _ _ ?_;(try dsimp only))|(k_end;wrow_close)|dsimp only|(leave1;try dsimp only))
        rename News _ _ _ _=>N9
        exact fin_ro (by assumption) N9 [] (by lcg_sub) (allOff_of fun _ _ _ h=>by cases h) rfl
    | em =>
      obtain ⟨c1,d3,n5,e1,m5,m6⟩:=id n1
      cases e1
      refine hG9 ?_;clear hG9
      as_aux_lemma =>
        repeat' (first|(k_unfold;(try dsimp only))|(k_here;(with_reducible show wpAny _ _ (compareOp CmpOp.Eq (Value.ref _) (Value.ref _)) _ _ _);k_dflt (refine' no_implicit_lambda% (eq_dat1 ?N ?Da ?sa ?Db ?sb ?ha ?hu ?_);(case N=>k_asm);(case Da=>assumption);(case Db=>assumption);(case sa=>lcg_sub);(case sb=>lcg_sub);(case ha=>first | rfl | decide +kernel);(case hu=>ke_room)))|(k_here;(with_reducible show wpAny _ _ (call (Value.ref 460) _) _ _ _);k_dflt (refine' no_implicit_lambda% (use_ronV (fun _ _ h=>dat_ref h) (told_e _ _ (‹NodeIn _ .empty (.ref _)›)) ?hs ?B ?F ?X ?N ?T ?kk ?dd ?uu ?_);tb_rel;(case hs=>lcg_sub));intro qq9' qtl9' qh' qtk' qF' qN' qhV' qhO';(try simp only [List.cons_append,List.nil_append,List.append_assoc] at qN');(try k_sweep))|walk1|(refine StD.nx (by with_reducible assumption) _ ?_)|(refine StD.rt (by with_reducible assumption) _ _ ?_)|(refine Ups.up (by with_reducible assumption) _ _ ?_;(try dsimp only))|(k_end;wrow_close)|dsimp only|(leave1;try dsimp only))
        rename News _ _ _ _=>N9
        exact fin_ro (by assumption) N9 [] (by lcg_sub) (allOff_of fun _ _ _ h=>by cases h) rfl
end
set_option maxHeartbeats 2000000
abbrev rdO' (c : Addr) (h1 h2 h3 h4 : Int) (u1 u2 u3 u4 : Tok) (dv : Value) (isP : Bool) (k : Int) (t : Tok) : Obj:=dictOf [⟨h1,.str (Str.ofString "cursor") u1,.ref c⟩,⟨h2,.str (Str.ofString "definitions") u2,dv⟩,⟨h3,.str (Str.ofString "is_pattern") u3,.bool isP⟩,⟨h4,.str (Str.ofString "depth") u4,.int k t⟩] 4
theorem reader_call {w : World} {news : Led} {p : Program} {loose : List Str} {mean : ExcName → Option Value} {mg mb : Str → Option Value} {dp un : Nat} {gd : Option (List Code)} {cn : Str} {cs : Scope} {a : Addr} {ccd : Value} {cl : List (Str × Addr)} {outer : List Env} {A₀ : Around} {base h₀ : Heap} {L : Addr} {m : Str → Option Value} {s : Shared} {Q E : Value → Shared → Prop}
    {tx : Str} {u u2 : Tok} {i : Int} {dv : Value} {isP : Bool} (hdv : handedIn dv = true) (B : Below A₀ base outer h₀) (F : Fr h₀ L s.heap m) (X : (KF w.params).In h₀) (N : News h₀ L s.heap news) (T : Top p loose mean mg mb h₀) (hk : cs.kind = .function) (hd : dp + 6 < recursionLimit) (hu : un + 8 * 8 < cLine)
    (ret : ∀ (r dr c dc : Addr) (h1 h2 h3 h4 hT hA : Int) (u1 u2 u3 u4 t5 k1 k2 k3 t4 : Tok) h' tk',Fr h₀ L h' m → News h₀ L h' ((c,instObj 222 dc) :: (dc,curD hT hA k1 k2 k3 t4 tx i) :: (r,instObj 879 dr) :: (dr,rdO' c h1 h2 h3 h4 u1 u2 u3 u4 dv isP 0 t5) :: news) → AllLt dr news → @LT.lt Nat _ dr r → AllLt dc ((r,instObj 879 dr) :: (dr,dictOf [] 0) :: news) → @LT.lt Nat _ dc c → Q (.ref r) { s with heap:=h',toks:=tk' }) :
    wpAny (model PR w) (ktrTop dp un gd cn cs L a ccd cl outer) (call (.ref 879) [.str tx u,.int i u2,dv,.bool isP]) Q E s:=by
  obtain ⟨kd,nms,ig,ic,mo⟩:=cs
  obtain rfl : kd = .function:=hk
  repeat' (first|(k_unfold;(try dsimp only))|walk1|(refine StD.nx (by with_reducible assumption) _ ?_)|(refine StD.rt (by with_reducible assumption) _ _ ?_)|(refine Ups.up (by with_reducible assumption) _ _ ?_;(try dsimp only))|(k_end;wrow_close)|(dsimp only;walk1)|(leave1;try dsimp only))
  rename Fr h₀ L _ m=>F9
  rename News h₀ L _ _=>N9
  rename AllLt _ news=>l8
  rename AllLt _ ((_,instObj 879 _) :: _)=>l9
  exact ret _ _ _ _ _ _ _ _ _ _ _ _ _ _ _ _ _ _ _ _ _ F9 N9 l8 (by assumption) l9 (by assumption)
set_option maxHeartbeats 2000000
structure TopReads (w : World) (ex : Led) (dv : Value) (isP : Bool) (tx : Str) (T : Tr) (n : Nat) (i j : Int) : Prop where
  of : ∀ (r dr c dc : Addr) (h1 h2 h3 h4 : Int) (u1 u2 u3 u4 : Tok) (hT hA : Int) (k1 k2 k3 t5 t4 : Tok),@Ne Nat r dr → @Ne Nat r c → @Ne Nat r dc → @Ne Nat dr c → @Ne Nat dr dc → @Ne Nat c dc → Off ex r → Off ex dr → Off ex c → Off ex dc →
    Sat w 794 n [.ref r] (rdrT ⟨r,dr,c,dc,h1,h2,h3,h4,u1,u2,u3,u4,dv,isP,hT,hA,k1,k2,k3,tx⟩ 0 t5 i t4 ex) (RP ⟨r,dr,c,dc,h1,h2,h3,h4,u1,u2,u3,u4,dv,isP,hT,hA,k1,k2,k3,tx⟩ 0 j ex (fun tl r=>NodeIn tl T r))
theorem top_of {w : World} {ex : Led} {dv : Value} {isP : Bool} {tx : Str} {T : Tr} {n d : Nat} {mid rest : List Nat} {i : Int} (hl : tx.length ≤ 1000) (hd : d ≤ 20) (ha : At tx i (mid ++ rest)) (hst : StopAt isP 0 rest) (hno : (hdS rest == Str.ofString "|") = false)
    (h : ∀ (R : RK),R.dv = dv → R.isP = isP → R.tx = tx → @Ne Nat R.r R.dr → @Ne Nat R.r R.c → @Ne Nat R.r R.dc → @Ne Nat R.dr R.c → @Ne Nat R.dr R.dc → @Ne Nat R.c R.dc → OffX R [] ex → Reads w R ex d mid T n) : TopReads w ex dv isP tx T (n + 10) i (i + mid.length):=by
  refine ⟨fun r dr c dc h1 h2 h3 h4 u1 u2 u3 u4 hT hA k1 k2 k3 t5 t4 n1 n2 n3 n4 n5 n6 x1 x2 x3 x4=>?_⟩
  have hE : OffX ⟨r,dr,c,dc,h1,h2,h3,h4,u1,u2,u3,u4,dv,isP,hT,hA,k1,k2,k3,tx⟩ [] ex:=⟨x1,x2,x3,x4,trivial⟩
  exact choice_top w _ hl n1 n2 n3 n4 n5 n6 hE (h _ rfl rfl rfl n1 n2 n3 n4 n5 n6 hE) 0 t5 i t4 (Int.le_refl 0) (by lia) ha hst hno
local macro_rules | `(tactic| k_ne)=>`(tactic| (refine neN ?_;first
  | (refine Nat.ne_of_lt ?_;assumption)
  | (refine Nat.ne_of_gt ?_;assumption)
  | (refine' ne_lt ?h ?m;(case h=>assumption);(case m=>k_mem);done)
  | (refine Ne.symm ?_;refine' ne_lt ?h ?m;(case h=>assumption);(case m=>k_mem);done)
  | (refine' ne_lt2 ?h2 ?h ?m;(case h2 | h=>assumption);(case m=>k_mem);done)
  | (refine Ne.symm ?_;refine' ne_lt2 ?h2 ?h ?m;(case h2 | h=>assumption);(case m=>k_mem);done)))
theorem off_cons9 {q : Addr × Obj} {l : Led} {d : Addr} (h : @Ne Nat q.1 d) (r : ∀ p ∈ l,p.1 ≠ d) : ∀ p ∈ q :: l,p.1 ≠ d:=fun p hp=>(List.mem_cons.mp hp).elim (fun e=>e ▸ h) (r p)
local macro_rules | `(tactic| k_all)=>`(tactic| first
  | (refine' off_lt ?h ?m;(case h=>assumption);(case m=>lcg_sub);done)
  | (refine' off_lt2 ?h2 ?h ?m;(case h2 | h=>assumption);(case m=>lcg_sub);done)
  | ((refine off_cons9 ?a ?b);(case a=>((try dsimp only);k_ne));(case b=>k_all)))
abbrev rdO (c : Addr) (h1 h2 h3 h4 : Int) (u1 u2 u3 u4 : Tok) (dv : Value) (isP : Bool) (k : Int) (t : Tok) : Obj:=dictOf [⟨h1,.str (Str.ofString "cursor") u1,.ref c⟩,⟨h2,.str (Str.ofString "definitions") u2,dv⟩,⟨h3,.str (Str.ofString "is_pattern") u3,.bool isP⟩,⟨h4,.str (Str.ofString "depth") u4,.int k t⟩] 4
theorem use_top {w : World} {news : Led} {p : Program} {loose : List Str} {mean : ExcName → Option Value} {mg mb : Str → Option Value} {dp un : Nat} {gd : Option (List Code)} {cn : Str} {cs : Scope} {a : Addr} {ccd : Value} {cl : List (Str × Addr)} {outer : List Env} {A₀ : Around} {base h₀ : Heap} {L : Addr} {m : Str → Option Value} {s : Shared} {Q E : Value → Shared → Prop}
    {ex : Led} {dv : Value} {isP : Bool} {tx : Str} {T : Tr} {n : Nat} {i j : Int} {r dr c dc : Addr} {h1 h2 h3 h4 : Int} {u1 u2 u3 u4 : Tok} {hT hA : Int} {k1 k2 k3 t5 t4 : Tok} {g1 : Obj → Led} {g2 : Obj → Obj → Led} (S : TopReads w ex dv isP tx T n i j)
    (hs : ∀ q ∈ (r,instObj 879 dr) :: (dr,rdO c h1 h2 h3 h4 u1 u2 u3 u4 dv isP 0 t5) :: (c,instObj 222 dc) :: (dc,curD hT hA k1 k2 k3 t4 tx i) :: ex,q ∈ news)
    (n1 : @Ne Nat r dr) (n2 : @Ne Nat r c) (n3 : @Ne Nat r dc) (n4 : @Ne Nat dr c) (n5 : @Ne Nat dr dc) (n6 : @Ne Nat c dc) (x1 : Off ex r) (x2 : Off ex dr) (x3 : Off ex c) (x4 : Off ex dc)
    (U1 : UpdF dr (rdO c h1 h2 h3 h4 u1 u2 u3 u4 dv isP 0 t5) news g1) (U2 : ∀ o,UpdF dc (curD hT hA k1 k2 k3 t4 tx i) (g1 o) (g2 o)) (B : Below A₀ base outer h₀) (F : Fr h₀ L s.heap m) (X : (KF w.params).In h₀) (N : News h₀ L s.heap news) (T' : Top p loose mean mg mb h₀) (hk : cs.kind = .function) (hd : dp + n < recursionLimit) (hu : un + 8 * n < cLine)
    (ret : ∀ r tl t5' t4' h' tk',Fr h₀ L h' m → News h₀ L h' (g2 (rdO c h1 h2 h3 h4 u1 u2 u3 u4 dv isP 0 t5') (curD hT hA k1 k2 k3 t4' tx j) ++ tl) → NodeIn tl T r → AllOff news tl → Q r { s with heap:=h',toks:=tk' }) : wpAny (model PR w) (ktrTop dp un gd cn cs L a ccd cl outer) (call (.ref 794) [.ref r]) Q E s :=
  use_rd (R:=⟨r,dr,c,dc,h1,h2,h3,h4,u1,u2,u3,u4,dv,isP,hT,hA,k1,k2,k3,tx⟩) (S.of r dr c dc h1 h2 h3 h4 u1 u2 u3 u4 hT hA k1 k2 k3 t5 t4 n1 n2 n3 n4 n5 n6 x1 x2 x3 x4) hs U1 U2 B F X N T' hk hd hu ret
section
variable (w : World) {ex : Led} {dv : Value} {tx : Str} {T : Tr} {n : Nat} {f : Int → Int} {u : Tok}
theorem read_ok (hR : TopReads w ex dv false tx T n 0 tx.length) (hl : tx.length ≤ 1000) (ha : At tx tx.length []) (hL : ∀ tl r,NodeIn tl T r → LevC w (ex ++ tl) r f n) (hf : f 0 ≤ 20) (hdv : handedIn dv = true) :
    Sat w 891 (n + 20) [.str tx u,dv] ex (RO ex (fun tl r=>NodeIn tl T r)):=by
  refine' sat_of (binds:=[(Str.ofString "text",.str tx u),(Str.ofString "definitions",dv)]) ?ho ?hcd ?hn ?hbind ?hloc ?h ?hcell ?hco ?hgen ?hk
  (case ho=>k_is);(case hcd=>k_is);(case hn=>first | decide | lia);(case hbind=>intro s X;first | exact BindsTo.of_eq rfl | exact binds_K X rfl (by k_is) rfl rfl rfl);(case hloc=>exact locs rfl)
  (case hcell=>decide);(case hco=>rfl);(case hgen=>rfl);(case hk=>rfl)
  intros
  repeat' (first|(k_unfold;(try dsimp only))|((with_reducible show wpAny _ _ (call _ _) _ _ _);first|(k_here;(with_reducible show wpAny _ _ (call (Value.ref 879) _) _ _ _);k_dflt (refine' no_implicit_lambda% (reader_call ?hdv ?B ?F ?X ?N ?T ?kk ?dd ?uu ?_);tb_rel;(case hdv=>assumption));intro qr' qdr' qc' qdc' qh1' qh2' qh3' qh4' qhT' qhA' qu1' qu2' qu3' qu4' qt5' qk1' qk2' qk3' qt4' qh' qtk' qF' qN' ql1' ql2' ql3' ql4';(try k_sweep))|(k_here;(with_reducible show wpAny _ _ (call (Value.ref 682) [_]) _ _ _);k_dflt (refine' no_implicit_lambda% (use_rocI (LevC.use0 ?S) ?hs ?B ?F ?X ?N ?T ?kk ?dd ?uu ?_);(case S=>assumption);tb_rel;(case hs=>lcg_sub));intro qt9' qh' qtk' qF' qN';(try k_sweep))|(k_here;(with_reducible show wpAny _ _ (call (Value.ref 794) _) _ _ _);k_dflt (refine' no_implicit_lambda% (use_top (‹TopReads _ _ _ _ _ _ _ _ _›) ?hs ?n1 ?n2 ?n3 ?n4 ?n5 ?n6 ?x1 ?x2 ?x3 ?x4 ?U1 ?U2 ?B ?F ?X ?N ?T ?kk ?dd ?uu ?_);tb_rel;(case hs=>lcg_sub);(case n1=>k_ne);(case n2=>k_ne);(case n3=>k_ne);(case n4=>k_ne);(case n5=>k_ne);(case n6=>k_ne);(case x1=>k_all);(case x2=>k_all);(case x3=>k_all);(case x4=>k_all);(case U1=>k_updF);(case U2=>(intro qo';first|(refine' no_implicit_lambda% (UpdF.tail ?a7 ?b7);(case a7=>k_ne);(case b7=>(refine' no_implicit_lambda% (UpdF.head ?a8);(case a8=>(refine no_implicit_lambda% (off_cons9 ?aa ?bb);(case aa=>((try dsimp only);k_ne));(case bb=>(refine no_implicit_lambda% (off_cons9 ?aa ?bb);(case aa=>((try dsimp only);k_ne));(case bb=>k_all))))))))|k_updF)));intro qr' qtl' qt5' qt4' qh' qtk' qF' qN' qhV' qhO';(try have hLv':=(‹∀ tl r,NodeIn tl _ r → LevC _ _ r _ _›) _ _ qhV');(try simp only [List.cons_append,List.nil_append,List.append_assoc] at qN');(try k_sweep)))|((with_reducible show wpAny _ _ (eval _ _) _ _ _);first|(k_here;(with_reducible show wpAny _ _ (eval (PySem.Expr.Call (PySem.Expr.Attribute (PySem.Expr.Name _ _) _ _) [] [] _) _) _ _ _);k_dflt (refine' no_implicit_lambda% (call_nm0 ?M ?F ?X ?N ?hm ?m1 ?m2 ?hl ?_);(case F=>k_asm);(case X=>k_in);(case N=>k_asm);(case hm=>exact rfl);(case m1 | m2=>k_mem);(case hl=>exact rfl);(case M=>first | exact mw8 _ | exact mw9 _ | exact mw10 _ | exact mw11 _ | exact mw12 _ | exact mw1 _ | exact mw2 _ | exact mw4 _ | exact mw5 _)))|(k_here;(with_reducible show wpAny _ _ (eval (PySem.Expr.Call (PySem.Expr.Attribute (PySem.Expr.Attribute (PySem.Expr.Name _ _) _ _) _ _) [] [] _) _) _ _ _);k_dflt (refine' no_implicit_lambda% (call_at0 ?O ?M ?F ?X ?N ?hm ?m1 ?m2 ?hl ?m3 ?m4 ?hl2 ?_);(case F=>k_asm);(case X=>k_in);(case N=>k_asm);(case hm=>exact rfl);(case m1 | m2=>k_mem);(case hl=>exact rfl);(case m3 | m4=>k_mem);(case hl2=>exact rfl);(case O=>exact ow1 _);(case M=>first | exact mw5 _ | exact mw2 _ | exact mw4 _ | exact mw1 _ | exact mw6 _ | exact mw12 _)))|(k_here;(with_reducible show wpAny _ _ (eval (PySem.Expr.Attribute (PySem.Expr.Name _ _) _ _) _) _ _ _);k_dflt (refine' no_implicit_lambda% (at_own ?O ?F ?X ?N ?hm ?m1 ?m2 ?hl ?hv ?_);(case F=>k_asm);(case X=>k_in);(case N=>k_asm);(case hm=>exact rfl);(case m1 | m2=>k_mem);(case hl=>exact rfl);(case hv=>k_handed);(case O=>first | exact ow1 _ | exact ow5 _ | exact ow6 _ | exact ow2 _ | exact ow3 _ | exact ow4 _ | exact ⟨by k_is,by k_is,_,by k_is,by k_is⟩))))|walk1|(refine StD.nx (by with_reducible assumption) _ ?_)|(refine StD.rt (by with_reducible assumption) _ _ ?_)|(refine Ups.up (by with_reducible assumption) _ _ ?_;(try dsimp only))|(k_end;wrow_close)|dsimp only|(leave1;try dsimp only))
  rename News _ _ _ _=>N9
  rename AllOff _ _=>O9
  refine fin_ro (by assumption) N9 _ ?s1 (allOff_sub O9 ?s2) (‹NodeIn _ T _›)
  case s1=>lcg_sub
  case s2=>lcg_sub
end
set_option maxHeartbeats 2000000
theorem dict_fields (o : Obj) (f : Array Value → Array Value) : (o.mapFields f).dict = o.dict:=by
  obtain ⟨c,d,dt,sl⟩:=o
  cases dt <;> rfl
theorem slots_fields (o : Obj) (f : Array Value → Array Value) : (o.mapFields f).slots = o.slots:=by
  obtain ⟨c,d,dt,sl⟩:=o
  cases dt <;> rfl
def Fly (B : Heap) (l : List Env) (e : Addr) (dc : Option Addr) (fl : Value) (h : Heap) : Prop :=
  B.StaysIn h ∧ B.get? e = none ∧ h.FunFrames B l ∧ ∃ oe vs T oT ts,h.get? e = some oe ∧ (oe.cls = .ref 95 ∧ oe.dict = dc ∧ oe.slots = #[]) ∧ oe.data = .fields vs ∧ vs[1]? = some (.ref T) ∧ B.get? T = none ∧ T ≠ e ∧ h.get? T = some oT ∧ oT.data = .fields ts ∧ ts[3]? = some fl
theorem Fly.tail {B h : Heap} {env : Env} {l : List Env} {e : Addr} {dc : Option Addr} {fl : Value} (x : Fly B (env :: l) e dc fl h) : Fly B l e dc fl h:=⟨x.1,x.2.1,x.2.2.1.2.2,x.2.2.2⟩
section
variable {M : Model} {A : Around} {E : Value → Shared → Prop} {s : Shared} {B : Heap} {env : Env} {outer l : List Env} {L e : Addr} {dc : Option Addr} {fl : Value} {Q : Unit → Shared → Prop}
theorem fly_entry {oe : Obj} {vs : Array Value} {head : Value} {hadNext : Bool} (hfr : A.frames = some (env :: outer)) (hl : s.heap.FunFrames B (env :: outer)) (hf : env.frame = some L) (he : s.heap.get? e = some oe) (hkb : B.StaysIn s.heap) (hen : B.get? e = none)
    (hd : oe.data = .fields vs) (hsz : 1 < vs.size) (hc : oe.cls = .ref 95 ∧ oe.dict = dc ∧ oe.slots = #[]) (h : ∀ h',Fly B (env :: outer) e dc (rawInt L) h' → s.heap.UpToSlots h' → Q () { s with heap:=h' }) :
    wpAny M A (do let a ← frameOf env;let pl ← entryPlaceOf L hadNext;let b ← EntryCells.newEntry head a .none (rawInt L) .none pl;setField (.ref e) 1 b) Q E s:=by
  have ne : e ∉ (env :: outer).filterMap (·.frame):=fun hm=>by
    obtain ⟨_,o,ho,hnf⟩:=hl.mem hm
    exact hnf vs (by rw [he] at ho;cases ho;exact hd)
  refine wpAny_bind (wpAny_frameOf_fun hfr hl hf fun h₁ hs₁=>wpAny_bind (wpAny_entryPlaceOf fun pl hpl=>?_))
  unfold EntryCells.newEntry newFields
  have e1 : h₁.get? e = some oe:=(hs₁.2.1 e ne).trans he
  have b1 : B.StaysIn h₁:=fun b o hb=>(hs₁.2.1 b fun hm=>by rw [(hl.mem hm).1] at hb;cases hb).trans (hkb b o hb)
  have hTe : h₁.objs.size ≠ e:=Nat.ne_of_gt (Heap.lt_size e1)
  refine wpAny_bind (wpAny_newObj_type ?_ (hpl.sizeOk5 _ _ _ _ _))
  generalize hO : ({ cls:=.type "traceback",dict:=none,data:=.fields ([head,.ref L,.none,rawInt L,.none] ++ (if pl.isEmpty then List.replicate 6 Value.none else pl)).toArray } : Obj) = oT
  have hOd : oT.data = .fields ([head,.ref L,.none,rawInt L,.none] ++ (if pl.isEmpty then List.replicate 6 Value.none else pl)).toArray:=by rw [← hO]
  have e2:=Heap.get?_push_of_some (h:=h₁) oT e1
  have d3:=Obj.data_mapFields hd (·.setIfInBounds 1 (Value.ref h₁.objs.size))
  have other : ∀ b o,h₁.get? b = some o → b ≠ e → ((h₁.push oT).update e (Obj.mapFields (·.setIfInBounds 1 (Value.ref h₁.objs.size)))).get? b = some o:=fun b o hb nb =>
    (Heap.get?_update_other _ _ (Ne.symm nb)).trans (Heap.get?_push_of_some _ hb)
  have nrec : ∀ b o,s.heap.get? b = some o → (∀ vs,o.data ≠ .fields vs) → b ≠ e:=fun b o hb hn q=>by
    subst q;rw [he] at hb;cases hb;exact hn vs hd
  refine wpAny_setField e2 hd hsz (h _ ⟨fun b o hb=>other b o (b1 b o hb) (fun q=>by rw [q,hen] at hb;cases hb),hen,hl.of_keeps fun b o hb hn=>?_,?_⟩ fun b o hb hn=>?_)
  · obtain ⟨sl,hs⟩:=hs₁.2.2 b o hb
    exact ⟨_,other b _ hs (nrec b o hb hn),rfl⟩
  · refine ⟨_,_,h₁.objs.size,oT,_,Heap.get?_update_self _ e2 (Obj.isFreed_of_fields d3),⟨(Obj.cls_mapFields _ _).trans hc.1,(dict_fields _ _).trans hc.2.1,(slots_fields _ _).trans hc.2.2⟩,d3,by simp [hsz],b1.fresh,hTe,?_,hOd,by simp⟩
    exact (Heap.get?_update_other _ _ (Ne.symm hTe)).trans (Heap.get?_push_size h₁ (Obj.isFreed_of_fields hOd))
  · obtain ⟨sl,hs⟩:=hs₁.2.2 b o hb
    exact ⟨sl,other b _ hs (nrec b o hb hn)⟩
theorem fly_set (F : Fly B l e dc fl s.heap) (h : ∀ h',Fly B l e dc .none h' → s.heap.UpToSlots h' → Q () { s with heap:=h' }) : wpAny M A (setFlight (.ref e) none) Q E s:=by
  obtain ⟨k1,k2,k3,oe,vs,T,oT,ts,he,hc,hd,h1,nT,hTe,hT,dT,h3⟩:=F
  have z3 : 3 < ts.size:=(Array.getElem?_eq_some_iff.mp h3).1
  have other : ∀ b,b ≠ T → (s.heap.update T (Obj.mapFields (·.setIfInBounds 3 ((none : Option Addr).elim Value.none fun f=>rawInt f)))).get? b = s.heap.get? b:=fun b hb=>Heap.get?_update_other _ _ (Ne.symm hb)
  have nrec : ∀ b o,s.heap.get? b = some o → (∀ vs,o.data ≠ .fields vs) → b ≠ T:=fun b o hb hn q=>by
    subst q;rw [hT] at hb;cases hb;exact hn ts dT
  have d3:=Obj.data_mapFields dT (·.setIfInBounds 3 ((none : Option Addr).elim Value.none fun f=>rawInt f))
  unfold setFlight
  refine wpAny_bind (wpAny_field he hd h1 ?_)
  rw [if_pos (show (Value.ref T != Value.none) = true from by simp)]
  refine wpAny_setField hT dT z3 (h _ ⟨fun b o hb=>(other b (fun q=>by rw [q,nT] at hb;cases hb)).trans (k1 b o hb),k2,k3.of_keeps fun b o hb hn=>⟨o,(other b (nrec b o hb hn)).trans hb,rfl⟩,?_⟩ fun b o hb hn=>⟨o.slots,(other b (nrec b o hb hn)).trans hb⟩)
  exact ⟨oe,vs,T,_,_,(other e (Ne.symm hTe)).trans he,hc,hd,h1,nT,hTe,Heap.get?_update_self _ hT (Obj.isFreed_of_fields d3),d3,by simp [z3]⟩
theorem note_first {oe : Obj} {vs : Array Value} (hfr : A.frames = some (env :: outer)) (hl : s.heap.FunFrames B (env :: outer)) (hf : env.frame = some L) (he : s.heap.get? e = some oe) (hkb : B.StaysIn s.heap) (hen : B.get? e = none)
    (hd : oe.data = .fields vs) (h1 : vs[1]? = some .none) (hc : oe.cls = .ref 95 ∧ oe.dict = dc ∧ oe.slots = #[]) (h : ∀ h',Fly B (env :: outer) e dc (rawInt L) h' → s.heap.UpToSlots h' → Q () { s with heap:=h' }) : wpAny M A (noteFrame (.ref e) env) Q E s:=by
  unfold noteFrame
  simp only [hf]
  refine wpAny_bind (wpAny_field he hd h1 ?_)
  rw [if_neg (by decide)]
  exact fly_entry hfr hl hf he hkb hen hd (Array.getElem?_eq_some_iff.mp h1).1 hc h
theorem note_next (hfr : A.frames = some (env :: outer)) (hf : env.frame = some L) (F : Fly B (env :: outer) e dc .none s.heap) (h : ∀ h',Fly B (env :: outer) e dc (rawInt L) h' → s.heap.UpToSlots h' → Q () { s with heap:=h' }) : wpAny M A (noteFrame (.ref e) env) Q E s:=by
  obtain ⟨k1,k2,k3,oe,vs,T,oT,ts,he,hc,hd,h1,nT,hTe,hT,dT,h3⟩:=F
  have other : ∀ b,b ≠ T → (s.heap.update T (Obj.mapFields (·.setIfInBounds 3 Value.none))).get? b = s.heap.get? b:=fun b hb=>Heap.get?_update_other _ _ (Ne.symm hb)
  have nrec : ∀ b o,s.heap.get? b = some o → (∀ vs,o.data ≠ .fields vs) → b ≠ T:=fun b o hb hn q=>by
    subst q;rw [hT] at hb;cases hb;exact hn ts dT
  unfold noteFrame
  simp only [hf]
  refine wpAny_bind (wpAny_field he hd h1 ?_)
  rw [if_pos (show (Value.ref T != Value.none) = true from by simp)]
  refine wpAny_bind (wpAny_field hT dT h3 ?_)
  rw [if_neg (show ¬ ((Value.none == rawInt L) = true) from by simp [rawInt])]
  refine wpAny_bind (wpAny_setField hT dT (Array.getElem?_eq_some_iff.mp h3).1 ?_)
  refine fly_entry hfr (k3.of_keeps fun b o hb hn=>⟨o,(other b (nrec b o hb hn)).trans hb,rfl⟩) hf ((other e (Ne.symm hTe)).trans he) (fun b o hb=>(other b fun q=>by rw [q,nT] at hb;cases hb).trans (k1 b o hb)) k2 hd (Array.getElem?_eq_some_iff.mp h1).1 hc fun h' x y=>h h' x fun b o hb hn=>y b o ((other b (nrec b o hb hn)).trans hb) hn
theorem leave_first {oe : Obj} {vs : Array Value} (hfr : A.frames = some (env :: outer)) (hl : s.heap.FunFrames B (env :: outer)) (hf : env.frame = some L) (he : s.heap.get? e = some oe) (hkb : B.StaysIn s.heap) (hen : B.get? e = none)
    (hd : oe.data = .fields vs) (h1 : vs[1]? = some .none) (hc : oe.cls = .ref 95 ∧ oe.dict = dc ∧ oe.slots = #[]) (h : ∀ h',Fly B outer e dc .none h' → s.heap.UpToSlots h' → Q () { s with heap:=h' }) : wpAny M A (leaving env (.ref e)) Q E s:=by
  unfold leaving
  exact wpAny_bind (note_first hfr hl hf he hkb hen hd h1 hc fun h₁ F₁ u₁=>fly_set F₁ fun h₂ F₂ u₂=>h h₂ F₂.tail (u₁.trans u₂))
end
set_option maxHeartbeats 2000000
open PySem.Builtin.ObjectAttr
abbrev excO (C : Addr) (d : Option Addr) (t : Addr) : Obj:={ cls:=.ref C,dict:=d,data:=.fields #[.ref t,.none,.none,.none,.bool false,.none] }
theorem upd1 {h₀ h : Heap} {L d : Addr} {m : Str → Option Value} {o o' : Obj} {f : Obj → Obj} {news : Led} {g : Obj → Led} (F : Fr h₀ L h m) (N : News h₀ L h news) (U : UpdF d o news g) (e : f o = o') (hf : o'.isFreed = false) :
    Fr h₀ L (h.update d f) m ∧ News h₀ L (h.update d f) (g o'):=by
  obtain ⟨pre,post,rfl,hg,h1,h2⟩:=U.split
  rw [hg]
  exact news_upd F N h1 h2 e hf
theorem updF_mem {d : Addr} {o : Obj} {news : Led} {g : Obj → Led} (U : UpdF d o news g) : (d,o) ∈ news:=by
  obtain ⟨pre,post,rfl,_⟩:=U.split;simp
section
variable {prog : Program} {w : World} {A : Around} {E : Value → Shared → Prop} {s : Shared} {h₀ : Heap} {L e t : Addr} {m : Str → Option Value} {news : Led} {g : Obj → Led} {v : Value}
theorem mro_exc : mroIn (KF w.params) 95 (.type "Exception") = some true:=by k_is
theorem cls_exc : ∃ cd,clsIn (KF w.params) 95 = some cd:=⟨_,by k_is⟩
theorem exc_isi {M : Model} {h : Heap} {d : Option Addr} (X : (KF w.params).In h) (he : h.get? e = some (excO 95 d t)) : Looks M h (isInstance (.ref e) (.type "Exception")) true:=by
  have t1 : Looks M h (typeOf (.ref e)) (.ref 95):=(Looks.ld he).andThen .now
  exact t1.andThen (looks_mroIn X mro_exc)
theorem ei_check {M : Model} {d : Option Addr} {Q : Unit → Shared → Prop} (X : (KF w.params).In s.heap) (he : s.heap.get? e = some (excO 95 d t)) (h : Q () s) : wpAny M A (checkBuiltinCall "Exception.__init__" ⟨[.ref e,v],[]⟩) Q E s:=by
  have FE:=PySem.F.excCall_Exception
  simp only [checkBuiltinCall,FE.initKind,FE.initSplit,FE.initRow]
  refine wpAny_bind ((exc_isi X he).here ?_)
  simp only [Bool.not_true,Bool.false_eq_true,if_false]
  obtain ⟨cd,hcd⟩:=cls_exc (w:=w)
  have hty : Looks M s.heap (typeOf (.ref e)) (.ref 95):=(Looks.ld he).andThen .now
  have hcl : Looks M s.heap (classData 95) cd:=looks_clsIn X hcd
  have hp : Looks M s.heap (Bind.printed "*" true ⟨.positional,"*","Exception",.self,[⟨"args",.varPos,false⟩]⟩ (some (.ref e))) cd.name.toString:=by
    unfold Bind.printed Bind.receiverType
    simp only [bne_self_eq_false,Bool.false_eq_true,if_false,if_true]
    have hw : Looks M s.heap (typeNameWhole (.ref 95)) cd.name.toString:=hcl.andThen .now
    exact hty.andThen (hw.andThen .now)
  unfold Bind.checkArgs
  dsimp only
  refine wpAny_bind (hp.here ?_)
  refine wpAny_bind (wpAny_of_eq (a:="Exception") (by unfold Bind.printed;rfl) ?_)
  refine wpAny_onRaise ?_
  exact wpAny_of_eq (a:=()) (check_star_args _ _ _ _ _ _) h
theorem exc_init_K {d : Option Addr} {Q : Value → Shared → Prop} (F : Fr h₀ L s.heap m) (N : News h₀ L s.heap news) (X₀ : (KF w.params).In h₀) (U : UpdF e (excO 95 d t) news g)
    (h : ∀ t' h',Fr h₀ L h' m → News h₀ L h' (g (excO 95 d t')) → (∀ q ∈ news,q.1 < t') → Q .none { s with heap:=h' }) :
    wpAny (model prog w) A (call (.builtin "Exception.__init__") [.ref e,v]) Q E s:=by
  have X:=X₀.keeps F.keep
  have he:=(N _ (updF_mem U)).1
  have FE:=PySem.F.excCall_Exception
  refine wpAny_call (codeAny_call_builtin FE.init.plain FE.initEntry (ei_check X he ?_))
  unfold Builtin.«BaseException.__init__»
  dsimp only
  refine wpAny_bind (wpAny_newTuple ?_)
  have N1:=N.push F { cls:=.type "tuple",data:=.seq [v].toArray }
  have F1:=F.push { cls:=.type "tuple",data:=.seq [v].toArray }
  obtain ⟨F2,N2⟩:=upd1 F1 N1 (.tail (Nat.ne_of_gt (Heap.lt_size he)) U) (f:=Obj.mapFields (·.setIfInBounds 0 (.ref s.heap.objs.size))) (o':=excO 95 d s.heap.objs.size) rfl rfl
  unfold Builtin.BaseException.bexcPut
  have he1:=(N1 _ (.tail _ (updF_mem U))).1
  refine wpAny_bind (wpAny_bind (wpAny_field he1 rfl (by rfl) (wpAny_bind (wpAny_setField he1 rfl (by show 0 < 6;decide) ?_))))
  refine wpAny_letGo ?_
  exact wpAny_pure (h _ _ F2 (fun q hq=>N2 q (.tail _ hq)) fun q hq=>Heap.lt_size (N q hq).1)
end
section
variable {prog : Program} {w : World} {A : Around} {E : Value → Shared → Prop} {s : Shared} {h₀ : Heap} {L e t : Addr} {m : Str → Option Value} {news : Led} {g : Obj → Led} {v : Value} {R : Result → Shared → Prop}
theorem exc_cd : ∃ cd,clsIn (KF w.params) 95 = some cd ∧ cd.mro = [.ref 95,.ref 82,.type "Exception",.type "BaseException",.type "object"] ∧ cd.hasDict = true:=⟨_,by k_is,rfl,rfl⟩
theorem exc_refuse (self : Value) : refuseLoop self "__setattr__" [.ref 95,.ref 82,.type "Exception",.type "BaseException",.type "object"] = pure ():=by
  rw [refuseLoop_ref,refuseLoop_ref];kernel_rfl
theorem exc_mobj : mroIn (KF w.params) 95 (.type "object") = some true:=by k_is
theorem osa_exc {d : Option Addr} {name : Str} {tk : Tok} (X : (KF w.params).In s.heap) (he : s.heap.get? e = some (excO 95 d t)) (ht : takerIn (KF w.params) 95 name = some none)
    (h : ∀ b,wpAny (model prog w) A.in1 (storeInOwnDict (.ref e) (.ref 95) (.str name tk) name v b)
      (fun fin s'=>match fin with | .done f=>R (.ok f) s' | .again c'=>c'.quiet = true ∧ codeAny (model prog w) A c' R s') (fun e s'=>R (.error e) s') s) :
    codeAny (model prog w) A (.call (.builtin "object.__setattr__") ⟨[.ref e,.str name tk,v],[]⟩) R s:=by
  have SF:=PySem.F.store_object
  obtain ⟨cd,hc,hm,_⟩:=exc_cd (w:=w)
  have ty : Looks (model prog w) s.heap (typeOf (.ref e)) (.ref 95):=(Looks.ld he).andThen .now
  have sub : Looks (model prog w) s.heap (isInstance (.ref e) (.type "object")) true:=ty.andThen (looks_mroIn X exc_mobj)
  refine codeAny_call_builtin SF.slot.plain SF.entry (@check_slot (model prog w) _ _ s "object.__setattr__" "object" "__setattr__" (.ref e) [.str name tk,v] [] _ SF.kind SF.split sub (SF.args (.ref e) (.str name tk) v) ?_)
  obtain ⟨attr,ha,hr⟩:=Option.bind_eq_some_iff.mp ht
  have hmro : Looks (model prog w) s.heap (mroOf (.ref 95)) cd.mro:=(looks_clsIn X hc).andThen .now
  have L3 : Looks (model prog w) s.heap (storeTaker? attr) none:=by
    cases attr with
    | none=>exact .now
    | some a =>
      obtain ⟨b,hb,q⟩:=Option.map_eq_some_iff.mp hr
      refine (looks_takesIn X hb).andThen ?_
      cases b
      · exact .now
      · cases q
  rw [osa_eq,refuse_eq]
  refine wpAny_bind (wpAny_bind (ty.here (wpAny_bind (hmro.here ?_))))
  rw [hm,exc_refuse]
  refine wpAny_pure (wpAny_bind (ty.here (wpAny_bind ((looks_findIn X ha).here (wpAny_bind (L3.here ?_))))))
  exact h _
theorem exc_store {d : Addr} {name : Str} {tk : Tok} {od od' : Obj} {es : List DictEntry} {n : Nat} {P : PySem.Fin → Shared → Prop} (F : Fr h₀ L s.heap m) (N : News h₀ L s.heap news) (U : UpdF d od news g) (hl : (lookIn name od).isSome = true)
    (e : Obj.putName name (PyData.keyHash w.params name) (.str name s.toks) v od = od') (e' : od'.data = .dict es.toArray n) (hz : es.length ≤ 1000)
    (h : ∀ h',Fr h₀ L h' m → News h₀ L h' (g od') → P (.done (.ret .none)) { s with heap:=h',toks:=s.toks + 1 }) :
    wpAny (model prog w) A (Builtin.ObjectAttr.storeInDict d (.str name tk) name v) P E s:=by
  obtain ⟨U1,U2⟩:=upd1 F N U e (by obtain ⟨_,_,dd,_⟩:=od';cases e';rfl)
  have D:=(N _ (updF_mem U)).1
  have D' : (s.heap.update d (Obj.putName name (PyData.keyHash w.params name) (.str name s.toks) v)).get? d = some od':=by
    obtain ⟨pre,post,_,hg,_⟩:=U.split
    exact (U2 (d,od') (by rw [hg];simp)).1
  unfold Builtin.ObjectAttr.storeInDict
  refine wpAny_bind (wpAny_pure (wpAny_bind ?_))
  unfold nsSet
  refine wpAny_bind (wpAny_bind (wpAny_askSetting (wpAny_pure (wpAny_bind (wpAny_mkText (wpAny_bind (wpAny_loadPart D ?_)))))))
  unfold lookIn at hl
  split at hl
  · rename_i es₀ n₀ q
    rw [q]
    dsimp only
    have c : (!es₀.any (·.key.isStr name) && es₀.any (·.refKey)) = false:=by
      rw [← Array.any_toList,← Array.any_toList]
      split at hl
      · rename_i en he
        rw [List.any_eq_true.mpr ⟨en,List.mem_of_find?_eq_some he,List.find?_some he⟩];rfl
      · split at hl
        · cases hl
        · rename_i z;rw [Bool.not_eq_true] at z;rw [z,Bool.and_false]
    rw [aRefKeyMayBeTheName_at,c]
    refine wpAny_updatePart D ?_
    refine wpAny_bind (wpAny_lookBehind D' (by rw [e'];exact pastItsLine_dict (by rw [List.size_toArray,sizeLine_eq];lia)) ?_)
    exact wpAny_pure (h _ U1 U2)
  · cases hl
end
section
variable {prog : Program} {w : World} {A : Around} {E : Value → Shared → Prop} {s : Shared} {h₀ : Heap} {L e t : Addr} {m : Str → Option Value} {news : Led} {g : Obj → Led} {v : Value}
theorem exc_sa : findIn (KF w.params) (.ref 95) "__setattr__" = some (some (.builtin "object.__setattr__")):=by k_is
theorem exc_set1 {name : Str} {es : List DictEntry} {n : Nat} {od' : Obj} {Q : Unit → Shared → Prop} (F : Fr h₀ L s.heap m) (N : News h₀ L s.heap news) (X₀ : (KF w.params).In h₀) (U : UpdF e (excO 95 none t) news g) (ht : takerIn (KF w.params) 95 name = some none) (hl : (lookIn name emptyDict).isSome = true)
    (ep : Obj.putName name (PyData.keyHash w.params name) (.str name (s.toks + 1)) v emptyDict = od') (e' : od'.data = .dict es.toArray n) (hz : es.length ≤ 1000)
    (h : ∀ dx h',Fr h₀ L h' m → News h₀ L h' ((dx,od') :: g (excO 95 (some dx) t)) → (∀ q ∈ news,q.1 < dx) → Q () { s with heap:=h',toks:=s.toks + 1 + 1 }) :
    wpAny (model prog w) A (setAttr (.ref e) name v) Q E s:=by
  have X:=X₀.keeps F.keep
  have he:=(N _ (updF_mem U)).1
  obtain ⟨cd,hc,hm,hd⟩:=exc_cd (w:=w)
  refine set_plain (C:=95) X (ox:=excO 95 none t) (od:=none) ⟨he,rfl,rfl,trivial⟩ exc_sa (osa_exc (s:={ s with toks:=s.toks + 1 }) X he ht fun b=>?_)
  unfold storeInOwnDict
  refine wpAny_bind (wpAny_pure (wpAny_bind (wpAny_bind (wpAny_loadPart he (wpAny_bind ((looks_clsIn (M:=model prog w) X hc).at ?_))))))
  rw [hd]
  dsimp only
  rw [if_neg (by decide),if_neg (show ¬ (!true || !typeHasDict (Value.ref 95)) = true by decide)]
  have N1:=N.push F emptyDict
  have F1:=F.push emptyDict
  obtain ⟨F2,N2⟩:=upd1 F1 N1 (.tail (Nat.ne_of_gt (Heap.lt_size he)) U) (f:=fun o=>{ cls:=o.cls,dict:=some s.heap.objs.size,data:=o.data,slots:=o.slots }) (o':=excO 95 (some s.heap.objs.size) t) rfl rfl
  refine wpAny_bind (wpAny_alloc ?_)
  refine wpAny_bind (wpAny_update (o:=excO 95 none t) ((N1 _ (.tail _ (updF_mem U))).1) ?_)
  have off : ∀ p ∈ g (excO 95 (some s.heap.objs.size) t),p.1 ≠ s.heap.objs.size:=fun p hp q=>by
    obtain ⟨pre,post,e1,hg,_⟩:=U.split
    rw [hg] at hp
    have : ∃ o,(p.1,o) ∈ news:=by
      rw [e1]
      rcases List.mem_append.mp hp with hp | hp
      · exact ⟨p.2,List.mem_append_left _ hp⟩
      · rcases List.mem_cons.mp hp with rfl | hp
        · exact ⟨_,List.mem_append_right _ (.head _)⟩
        · exact ⟨p.2,List.mem_append_right _ (.tail _ hp)⟩
    obtain ⟨o,ho⟩:=this
    exact Nat.ne_of_lt (Heap.lt_size (N _ ho).1) q
  exact wpAny_pure (a:=some _) (wpAny_mono (exc_store (s:={ s with heap:=_,toks:=s.toks + 1 }) F2 N2 (.head off) hl ep e' hz fun h' F' N'=>h _ h' F' N' fun q hq=>Heap.lt_size (N q hq).1) (fun _ _ z=>z) fun _ _ z=>z)
theorem exc_set2 {d : Addr} {name : Str} {es : List DictEntry} {n : Nat} {od od' : Obj} {Q : Unit → Shared → Prop} (F : Fr h₀ L s.heap m) (N : News h₀ L s.heap news) (X₀ : (KF w.params).In h₀) (he : (e,excO 95 (some d) t) ∈ news) (U : UpdF d od news g) (ht : takerIn (KF w.params) 95 name = some none) (hl : (lookIn name od).isSome = true)
    (ep : Obj.putName name (PyData.keyHash w.params name) (.str name (s.toks + 1)) v od = od') (e' : od'.data = .dict es.toArray n) (hz : es.length ≤ 1000)
    (h : ∀ h',Fr h₀ L h' m → News h₀ L h' (g od') → Q () { s with heap:=h',toks:=s.toks + 1 + 1 }) :
    wpAny (model prog w) A (setAttr (.ref e) name v) Q E s:=by
  have X:=X₀.keeps F.keep
  have he:=(N _ he).1
  obtain ⟨cd,hc,hm,hd⟩:=exc_cd (w:=w)
  refine set_plain (C:=95) X (ox:=excO 95 (some d) t) (od:=some od) ⟨he,rfl,rfl,(N _ (updF_mem U)).1⟩ exc_sa (osa_exc (s:={ s with toks:=s.toks + 1 }) X he ht fun b=>?_)
  unfold storeInOwnDict
  refine wpAny_bind (wpAny_pure (wpAny_bind (wpAny_bind (wpAny_loadPart he (wpAny_bind ((looks_clsIn (M:=model prog w) X hc).at ?_))))))
  rw [hd]
  exact wpAny_pure (a:=some d) (wpAny_mono (exc_store (s:={ s with toks:=s.toks + 1 }) F N U hl ep e' hz fun h' F' N'=>h h' F' N') (fun _ _ z=>z) fun _ _ z=>z)
end
section
variable {prog : Program} {w : World} {A : Around} {E : Value → Shared → Prop} {s : Shared} {h₀ : Heap} {L e t : Addr} {m : Str → Option Value} {news : Led} {g : Obj → Led} {v : Value}
theorem exc_set_what {Q : Unit → Shared → Prop} (F : Fr h₀ L s.heap m) (N : News h₀ L s.heap news) (X₀ : (KF w.params).In h₀) (U : UpdF e (excO 95 none t) news g)
    (h : ∀ dx h',Fr h₀ L h' m → News h₀ L h' ((dx,dictOf [⟨PyData.keyHash w.params (Str.ofString "what"),.str (Str.ofString "what") (s.toks + 1),v⟩] 1) :: g (excO 95 (some dx) t)) → (∀ q ∈ news,q.1 < dx) → Q () { s with heap:=h',toks:=s.toks + 1 + 1 }) :
    wpAny (model prog w) A (setAttr (.ref e) (Str.ofString "what") v) Q E s :=
  exc_set1 F N X₀ U (by k_is) (by rfl) (by rfl) (by rfl) (Nat.le_of_ble_eq_true rfl) h
theorem exc_set_at {d : Addr} {h1 : Int} {u1 : Tok} {v1 : Value} {Q : Unit → Shared → Prop} (F : Fr h₀ L s.heap m) (N : News h₀ L s.heap news) (X₀ : (KF w.params).In h₀) (he : (e,excO 95 (some d) t) ∈ news) (U : UpdF d (dictOf [⟨h1,.str (Str.ofString "what") u1,v1⟩] 1) news g)
    (h : ∀ h',Fr h₀ L h' m → News h₀ L h' (g (dictOf [⟨h1,.str (Str.ofString "what") u1,v1⟩,⟨PyData.keyHash w.params (Str.ofString "at"),.str (Str.ofString "at") (s.toks + 1),v⟩] 2)) → Q () { s with heap:=h',toks:=s.toks + 1 + 1 }) :
    wpAny (model prog w) A (setAttr (.ref e) (Str.ofString "at") v) Q E s :=
  exc_set2 F N X₀ he U (by k_is) (by rfl) (by rfl) (by rfl) (Nat.le_of_ble_eq_true rfl) h
end
theorem init_sat (w : World) (e t : Addr) (what : Str) (u : Tok) (ps : Addr) (o : Obj) (hne : @Ne Nat e t) :
    Sat w 72 4 [.ref e,.str what u,.ref ps] [(e,excO 95 none t),(t,o)] (fun r own'=>r = .none ∧ ∃ d t' h1 u1 h2 u2,own' = [(d,dictOf [⟨h1,.str (Str.ofString "what") u1,.str what u⟩,⟨h2,.str (Str.ofString "at") u2,.ref ps⟩] 2),(e,excO 95 (some d) t')] ∧ @LT.lt Nat _ e d ∧ @LT.lt Nat _ t d):=by
  refine' sat_of (binds:=[(Str.ofString "self",.ref e),(Str.ofString "what",.str what u),(Str.ofString "at",.ref ps)]) ?ho ?hcd ?hn ?hbind ?hloc ?h ?hcell ?hco ?hgen ?hk
  (case ho=>k_is);(case hcd=>k_is);(case hn=>first | decide | lia);(case hbind=>intro s X;first | exact BindsTo.of_eq rfl | exact binds_K X rfl (by k_is) rfl rfl rfl);(case hloc=>exact locs rfl)
  (case hcell=>decide);(case hco=>rfl);(case hgen=>rfl);(case hk=>rfl)
  intros
  repeat' (first|(k_unfold;(try dsimp only))|(k_here;(with_reducible show wpAny _ _ (setAttr _ (PySem.Str.ofString "at") _) _ _ _);k_dflt (refine' no_implicit_lambda% (exc_set_at ?F ?N ?X ?he ?U ?_);(case F=>k_asm);(case N=>k_asm);(case X=>k_asm);(case he=>k_mem);(case U=>k_updF));intro qh' qF' qN';(try k_sweep))|(k_here;(with_reducible show wpAny _ _ (setAttr _ (PySem.Str.ofString "what") _) _ _ _);k_dflt (refine' no_implicit_lambda% (exc_set_what ?F ?N ?X ?U ?_);(case F=>k_asm);(case N=>k_asm);(case X=>k_asm);(case U=>k_updF));intro qdx' qh' qF' qN' qord';(try k_lt qord');(try k_sweep))|(k_here;(with_reducible show wpAny _ _ (call (Value.builtin "Exception.__init__") _) _ _ _);k_dflt (refine' no_implicit_lambda% (exc_init_K ?F ?N ?X ?U ?_);(case F=>k_asm);(case N=>k_asm);(case X=>k_asm);(case U=>k_updF));intro qt' qh' qF' qN' qord';(try k_lt qord');(try k_sweep))|(k_here;(with_reducible show wpAny _ _ (getMethod (Value.type "Exception") _ _) _ _ _);k_dflt (refine' no_implicit_lambda% (method_type ?k1 ?k2 ?k3 ?k4 ?k5 ?k6 ?_);(case k1=>k_asm);(case k2=>k_asm);(case k3=>first | rfl | kernel_rfl);(case k4=>decide +kernel);(case k5=>k_is);(case k6=>decide +kernel);k_whole))|walk1|(refine StD.nx (by with_reducible assumption) _ ?_)|(refine StD.rt (by with_reducible assumption) _ _ ?_)|(refine Ups.up (by with_reducible assumption) _ _ ?_;(try dsimp only))|(k_end;wrow_close)|dsimp only|(leave1;try dsimp only))
  rename News _ _ _ _=>N9
  exact done_c (by assumption) N9 ⟨rfl,_,_,_,_,_,_,rfl,lt_lt (by assumption) (by k_mem),lt_lt (by assumption) (by k_mem)⟩ ⟨.head _,.tail _ (.head _),trivial⟩
section
variable {prog : Program} {w : World} {A : Around} {E : Value → Shared → Prop} {h : Heap} {g : Array GenState} {d : Drawn} {t : Nat} {os : OsState}
theorem exc_cls (X : (KF w.params).In h) : ∃ nm q N bs hdct sn sub ab col dd k0 k1 k2 k3 k5,h.get? 95 = some (excClassObj nm q 95 N bs [.ref 82,.type "Exception",.type "BaseException",.type "object"] hdct sn sub ab col dd k0 k1 k2 k3 k5 "Exception.__new__") :=
  ⟨_,_,_,_,_,_,_,_,_,_,_,_,_,_,_,X _ _ (by rfl)⟩
theorem exc_mself : mroIn (KF w.params) 95 (.ref 95) = some true:=by k_is
theorem exc_fi : findIn (KF w.params) (.ref 95) "__init__" = some (some (.ref 72)):=by k_is
theorem exc_ft : typeIn (KF w.params) (.ref 72) = some (.type "function"):=by k_is
theorem exc_new_95 {rest : List Value} {R : Result → Shared → Prop} (X : (KF w.params).In h) (hrest : rest.length ≤ sizeLine)
    (hq : R (.ok (.ret (.ref (h.objs.size + 1)))) ⟨(h.push { cls:=.type "tuple",data:=.seq rest.toArray }).push (excO 95 none h.objs.size),g,d,t,os⟩) :
    codeAny (model prog w) A (.builtin "Exception.__new__" ⟨.ref 95 :: rest,[]⟩) R ⟨h,g,d,t,os⟩:=by
  have F:=PySem.F.excBase_Exception
  obtain ⟨nm,q,N,bs,hdct,sn,sub,ab,col,dd,k0,k1,k2,k3,k5,hC⟩:=exc_cls X
  have hcB : (Value.ref 95 :: [.ref 82,.type "Exception",.type "BaseException",.type "object"]).contains (.type "Exception") = true:=by decide
  have hcA : (Value.ref 95 :: [.ref 82,.type "Exception",.type "BaseException",.type "object"]).contains (.type "AttributeError") = false:=by decide
  have hcN : (Value.ref 95 :: [.ref 82,.type "Exception",.type "BaseException",.type "object"]).contains (.type "NameError") = false:=by decide
  have hends:=F.ends
  refine codeAny_builtinAt F.entry ?_
  unfold Builtin.«BaseException.__new__»
  refine PySem.wpAt_bind ?_
  show PySem.wpAt _ _ _ (stack >>= _) _ _ _
  refine PySem.wpAt_bind (PySem.wpAt_stack fun p below=>PySem.wpAt_of_wpAny ?_)
  wp_walk
  refine PySem.wpAt_of_wpAny ?_
  rw [F.owner]
  repeat (first | with_reducible refine wpAny_madeHere_exc F.canon hC ?_ | with_reducible refine wpAny_loadPart_at hC ?_|(with_reducible refine wpAny_isSubtype_exc hC ?_;first | rw [hcB] | rw [hcA] | rw [hcN])|wp_step)
  show R _ _
  rw [Heap.size_push]
  exact hq
theorem exc_check_new {rest : List Value} {M : Model} {Q : Unit → Shared → Prop} (X : (KF w.params).In h) (hq : Q () ⟨h,g,d,t,os⟩) : wpAny M A (checkBuiltinCall "Exception.__new__" ⟨.ref 95 :: rest,[]⟩) Q E ⟨h,g,d,t,os⟩:=by
  have F:=PySem.F.excBase_Exception
  obtain ⟨nm,q,N,bs,hdct,sn,sub,ab,col,dd,k0,k1,k2,k3,k5,hC⟩:=exc_cls X
  have hcont : (Value.ref 95 :: [.ref 82,.type "Exception",.type "BaseException",.type "object"]).contains (.type "Exception") = true:=by decide
  have hstar:=F.noStar
  simp only [checkBuiltinCall,F.newKind,F.newSplit,F.newRow]
  repeat (first | refine wpAny_loadPart_at hC ?_|(refine wpAny_isSubtype_exc hC ?_;rw [hcont])|refine wpAny_staticBase_exc hC ?_ | refine wpAny_madeBy_exc hC ?_ | simp only [bne_self_eq_false,Bool.false_eq_true,if_false] | wp_step)
  exact hq
theorem exc_call_95 {rest : List Value} {Q : Value → Shared → Prop} (X : (KF w.params).In h) (hrest : rest.length ≤ sizeLine)
    (hq : wpAny (model prog w) (A.under (.builtin "type.__call__" ⟨.ref 95 :: rest,[]⟩)) (call (.ref 72) (.ref (h.objs.size + 1) :: rest)) (fun r s'=>r = .none ∧ Q (.ref (h.objs.size + 1)) s') E
      ⟨(h.push { cls:=.type "tuple",data:=.seq rest.toArray }).push (excO 95 none h.objs.size),g,d,t,os⟩) :
    wpAny (model prog w) A (call (.ref 95) rest) Q E ⟨h,g,d,t,os⟩:=by
  have F:=PySem.F.excBase_Exception
  obtain ⟨nm,q,N,bs,hdct,sn,sub,ab,col,dd,k0,k1,k2,k3,k5,hC⟩:=exc_cls X
  have f1:=tc_lookup
  have f2:=tc_bind (.ref 95)
  have hT : (⟨h,g,d,t,os⟩ : Shared).TypeIs (.ref 95) "type":=⟨_,hC,rfl⟩
  refine wpAny_call (codeAny_of_tree ?_)
  show wpAny _ _ (callAny (.ref 95) _) _ _ _
  repeat (any_goals (first | assumption | with_reducible refine wpAny_loadPart_at hC ?_ | wp_step))
  refine ⟨rfl,?_⟩
  refine codeAny_call_builtin_at (Code.quiet_builtin _ (by decide +kernel)) entry_typeCall (wpAny_check_type_call_sub hC ?_)
  unfold Builtin.«type.__call__»
  repeat (first | with_reducible refine wpAny_loadPart_at hC ?_ | with_reducible refine wpAny_madeBy_exc hC ?_ | wp_step)
  refine codeAny_call_builtin_code (Code.quiet_builtin _ F.quiet) (exc_check_new X ?_)
  refine exc_new_95 X hrest ?_
  show wpAny _ _ _ _ _ _
  have kp : ∀ b o,h.get? b = some o → ((h.push { cls:=.type "tuple",data:=.seq rest.toArray }).push (excO 95 none h.objs.size)).get? b = some o:=fun b o e=>Heap.get?_push_of_some _ (Heap.get?_push_of_some _ e)
  have X1:=X.keeps kp
  have hC₁:=kp _ _ hC
  have hget : ((h.push { cls:=.type "tuple",data:=.seq rest.toArray }).push (excO 95 none h.objs.size)).get? (h.objs.size + 1) = some (excO 95 none h.objs.size):=by heap_get
  have hcC : (Value.ref 95 :: [.ref 82,.type "Exception",.type "BaseException",.type "object"]).contains (.ref 95) = true:=by decide
  have ty : Looks (model prog w) ((h.push { cls:=.type "tuple",data:=.seq rest.toArray }).push (excO 95 none h.objs.size)) (typeOf (.ref (h.objs.size + 1))) (.ref 95):=(Looks.ld hget).andThen .now
  have isi : Looks (model prog w) ((h.push { cls:=.type "tuple",data:=.seq rest.toArray }).push (excO 95 none h.objs.size)) (isInstance (.ref (h.objs.size + 1)) (.ref 95)) true:=ty.andThen (looks_mroIn X1 exc_mself)
  refine wpAny_bind (isi.at ?_)
  rw [if_neg (by decide)]
  refine wpAny_bind (wpAny_holding ?_)
  unfold callSpecial? specialOf
  refine wpAny_bind (wpAny_bind (ty.at ?_))
  refine (looks_findIn X1 exc_fi).at ?_
  refine wpAny_holding (wpAny_bind ?_)
  refine (bind_fn X1 _ exc_ft).at ?_
  refine wpAny_bind (wpAny_mono hq (fun r s' hr=>?_) fun _ _ x=>x)
  obtain ⟨rfl,hQ⟩:=hr
  wp_walk
  exact hQ
end
theorem under_top (dp un : Nat) (gd : Option (List Code)) (cn : Str) (cs : Scope) (L a : Addr) (ccd : Value) (cl : List (Str × Addr)) (outer : List Env) (vs : List Value) :
    (ktrTop dp un gd cn cs L a ccd cl outer).under (.builtin "type.__call__" ⟨.ref 95 :: vs,[]⟩) = ktrTop (dp + 1) (un + 1) gd cn cs L a ccd cl outer:=rfl
set_option maxHeartbeats 2000000
abbrev frs (l : List Env) : List Addr:=l.filterMap (·.frame)
def RaisedD (base G : Heap) (l : List Env) (e d : Addr) (news : Led) (h : Heap) : Prop :=
  ∃ B,base.StaysIn B ∧ (∀ b o,G.get? b = some o → b ∉ frs l → B.get? b = some o) ∧ (∀ q ∈ news,B.get? q.1 = some q.2 ∧ G.get? q.1 = none) ∧ Fly B l e (some d) .none h
def SatE (w : World) (f : Addr) (n : Nat) (vs : List Value) (own : Led) (Post : Addr → Addr → Led → Prop) : Prop :=
  ∀ (p : Program) (loose : List Str) (mean : ExcName → Option Value) (mg mb : Str → Option Value) (dp un : Nat) (gd : Option (List Code)) (cn : Str) (cs : Scope) (a : Addr) (ccd : Value) (cl : List (Str × Addr)) (outer : List Env) (A₀ : Around) (base h₀ : Heap) (L : Addr) (m : Str → Option Value) (s : Shared) (Q E : Value → Shared → Prop),
    Below A₀ base outer h₀ → Fr h₀ L s.heap m → (KF w.params).In h₀ → News h₀ L s.heap own → Top p loose mean mg mb h₀ → cs.kind = .function → dp + n < recursionLimit → un + 8 * n < cLine →
    (∀ e d own' h' tk',RaisedD base s.heap (envX cn cs L a ccd cl :: outer) e d own' h' → s.heap.UpToSlots h' → Post e d own' → E (.ref e) { s with heap:=h',toks:=tk' }) →
    wpAny (model PR w) (ktrTop dp un gd cn cs L a ccd cl outer) (call (.ref f) vs) Q E s
def DoneE (g : Heap) (L' : Addr) (s : Shared) (own : Led) (Post : Addr → Addr → Led → Prop) (v : Value) (s' : Shared) : Prop :=
  ∃ e d t m' new h' tk',v = .ref e ∧ s' = { s with heap:=h',toks:=tk' } ∧ Fr g L' h' m' ∧ News g L' h' ((e,{ cls:=.ref 95,dict:=some d,data:=.fields #[.ref t,.none,.none,.none,.bool false,.none] }) :: (own ++ new)) ∧ (∀ q ∈ own ++ new,q.1 ≠ e) ∧ AllOff own new ∧ Post e d new
theorem frs_mem {env : Env} {l : List Env} {L b : Addr} (hf : env.frame = some L) (hm : b ∈ frs (env :: l)) : b = L ∨ b ∈ frs l:=by
  obtain ⟨x,he,hb⟩:=List.mem_filterMap.mp hm
  rcases List.mem_cons.mp he with rfl | he
  · rw [hf] at hb;exact .inl (Option.some.inj hb).symm
  · exact .inr (List.mem_filterMap.mpr ⟨x,he,hb⟩)
theorem none_of {g G : Heap} (k : ∀ b o,g.get? b = some o → G.get? b = some o) {b : Addr} (e : G.get? b = none) : g.get? b = none:=by
  cases q : g.get? b with
  | none=>rfl
  | some o=>rw [k b o q] at e;cases e
theorem not_fr {base g : Heap} {l : List Env} {b : Addr} (F : g.FunFrames base l) (e : g.get? b = none) : b ∉ frs l:=fun hm=>by
  obtain ⟨_,o,ho,_⟩:=F.mem hm
  rw [e] at ho;cases ho
theorem satE_of {w : World} {f : Addr} {n : Nat} {vs : List Value} {own : Led} {Post : Addr → Addr → Led → Prop} {name qual : Str} {params : Arguments} {body : List Stmt} {scope : Scope} {dV kV doc pm cdv ct oc : Value} {an od : Option Addr} {osl : Array (Option Value)} {binds : List (Str × Value)}
    (ho : (KF w.params).lookup f = some ⟨oc,od,.func (fnOf name qual params body scope dV kV doc pm an cdv ct),osl⟩) (hcd : codeIn (KF w.params) cdv qual = true) (hn : 1 ≤ n)
    (hbind : ∀ s : Shared,(KF w.params).In s.heap → BindsTo s (fnOf name qual params body scope dV kV doc pm an cdv ct) ⟨vs,[]⟩ binds) (hloc : ∀ y ∈ binds,scope.names.lookup y.1 = some .local)
    (h : ∀ (p : Program) (loose : List Str) (mean : ExcName → Option Value) (mg mb : Str → Option Value) (dp un : Nat) (gd : Option (List Code)) (cn : Str) (cs : Scope) (a : Addr) (ccd : Value) (cl : List (Str × Addr)) (outer : List Env) (base g : Heap) (L L' : Addr) (h₁ : Heap) (s : Shared),
      Fr g L' h₁ (fun y=>binds.reverse.lookup y) → News g L' h₁ own → Below (ktrTop dp un gd cn cs L a ccd cl outer) base (envX cn cs L a ccd cl :: outer) g → (KF w.params).In g → Top p loose mean mg mb g → dp + n < recursionLimit → un + 8 * n < cLine →
      wpAny (model PR w) ((ktrTop dp un gd cn cs L a ccd cl outer).deeper (envOf qual scope L' f cdv)) (execs body (envOf qual scope L' f cdv))
        (fun _ _=>False) (fun v s'=>DoneE g L' s own Post v s') { s with heap:=h₁,toks:=s.toks + binds.length })
    (hcell : ∀ x ∈ scope.names,x.2 ≠ .cell) (hco : scope.isCoroutine = false) (hgen : scope.isGenerator = false) (hk : scope.kind = .function) : SatE w f n vs own Post:=by
  intro p loose mean mg mb dp un gd cn cs a ccd cl outer A₀ base h₀ L m s Q E B F X N T hck hd hu ret
  refine wpAny_call ?_
  obtain ⟨FG,BG,st,_⟩:=groundX (A:=ktrTop dp un gd cn cs L a ccd cl outer) (R:=fun _ _=>True) B F N rfl rfl hck
  refine codeAny_call_def (fd:=fnOf name qual params body scope dV kV doc pm an cdv ct) (body:=body) (binds:=binds) (by show dp < recursionLimit;lia) ((X.keeps F.keep) _ _ ho) rfl (T.nolimit.keeps F.keep) (codeRec_of (X.keeps F.keep) hcd) rfl (hbind s (X.keeps F.keep)) hcell hloc (fun h₁ hns hk₁=>?_) hco hgen hk
  refine wpAny_mono (h p loose mean mg mb dp un gd cn cs a ccd cl outer base _ L s.heap.objs.size h₁ s ⟨hns,fun b o e=>hk₁ b o (of_hideAll _ e),Nat.le_of_eq (hideAll_size _ _)⟩
    (fun q hq=>⟨hk₁ _ _ (N q hq).1,Nat.ne_of_lt (Heap.lt_size (N q hq).1),hideAll_none _ (List.mem_map_of_mem hq)⟩) BG (X.keeps st) (T.keeps st) hd hu) (fun fl s' hl=>hl.elim) fun v s' hl=>?_
  obtain ⟨e,d,t,m',new,h',tk',rfl,rfl,F',N',off,offn,hP⟩:=hl
  show wpAny (model PR w) ((ktrTop dp un gd cn cs L a ccd cl outer).deeper (envOf qual scope s.heap.objs.size f cdv)) (leaving (envOf qual scope s.heap.objs.size f cdv) (.ref e)) _ _ _
  have K':=pushX (env:=envOf qual scope s.heap.objs.size f cdv) BG F' rfl hk
  -- all that stood,stands
  have old : ∀ b o,s.heap.get? b = some o → h'.get? b = some o:=fun b o hb=>by
    by_cases hm : b ∈ own.map (·.1)
    · obtain ⟨q,hq,rfl⟩:=List.mem_map.mp hm
      have z:=(N q hq).1
      rw [hb] at z;cases z
      exact (N' q (.tail _ (List.mem_append_left _ hq))).1
    · exact F'.keep b o (hideAll_get _ hb hm)
  have fresh : ∀ q : Addr × Obj,q ∈ (e,({ cls:=.ref 95,dict:=some d,data:=.fields #[.ref t,.none,.none,.none,.bool false,.none] } : Obj)) :: (own ++ new) → q.1 ∉ own.map (·.1) → s.heap.get? q.1 = none:=fun q hq nm=>by
    cases z : s.heap.get? q.1 with
    | none=>rfl
    | some o=>have:=(N' q hq).2.2;rw [hideAll_get _ z nm] at this;cases this
  have ne : e ∉ own.map (·.1):=fun hm=>by
    obtain ⟨q,hq,ee⟩:=List.mem_map.mp hm
    exact off q (List.mem_append_left _ hq) ee
  have he0:=fresh _ (.head _) ne
  have hen:=(N' _ (.head _)).1
  have hnew0 : ∀ q ∈ new,s.heap.get? q.1 = none:=fun q hq=>fresh q (.tail _ (List.mem_append_right _ hq)) fun hm=>by
    obtain ⟨q',hq',ee⟩:=List.mem_map.mp hm
    exact offn.mem q' hq' q hq ee.symm
  have bs : ∀ b o,base.get? b = some o → s.heap.get? b = some o:=fun b o hb=>F.keep b o (B.stays b o hb)
  have frN : ∀ b,s.heap.get? b = none → b ≠ s.heap.objs.size → b ∉ frs (envOf qual scope s.heap.objs.size f cdv :: envX cn cs L a ccd cl :: outer):=fun b hb hn hm=>by
    rcases frs_mem rfl hm with z | z
    · exact hn z
    · obtain ⟨_,o,ho,_⟩:=BG.frames.mem z
      rw [of_hideAll _ ho] at hb;cases hb
  have nL' : ∀ b o,s.heap.get? b = some o → b ≠ s.heap.objs.size:=fun b o hb=>Nat.ne_of_lt (Heap.lt_size hb)
  have hin : ∀ env ∈ (envOf qual scope s.heap.objs.size f cdv :: envX cn cs L a ccd cl :: outer),∀ b,env.frame = some b → b ∈ e :: frs (envOf qual scope s.heap.objs.size f cdv :: envX cn cs L a ccd cl :: outer):=fun env he b hb=>.tail _ (List.mem_filterMap.mpr ⟨env,he,hb⟩)
  refine leave_first (B:=hideAll h' (e :: frs (envOf qual scope s.heap.objs.size f cdv :: envX cn cs L a ccd cl :: outer))) (Around.frames_deeper BG.stack) (funFrames_hide K'.frames hin) rfl hen (fun b o q=>of_hideAll _ q) (hideAll_none _ (.head _)) rfl rfl ⟨rfl,rfl,rfl⟩ fun h'' hF hU=>ret e d new h'' tk' ⟨_,fun b o hb=>?_,fun b o hb nm=>?_,fun q hq=>⟨?_,hnew0 q hq⟩,hF⟩ ((Heap.UpToSlots.of_keeps old).trans hU) hP
  · refine hideAll_get _ (old b o (bs b o hb)) fun hm=>?_
    rcases List.mem_cons.mp hm with rfl | hm
    · rw [bs _ _ hb] at he0;cases he0
    · rw [(K'.frames.mem hm).1] at hb;cases hb
  · refine hideAll_get _ (old b o hb) fun hm=>?_
    rcases List.mem_cons.mp hm with rfl | hm
    · rw [hb] at he0;cases he0
    · rcases frs_mem rfl hm with z | z
      · exact nL' b o hb z
      · exact nm z
  · refine hideAll_get _ (N' q (.tail _ (List.mem_append_right _ hq))).1 fun hm=>?_
    rcases List.mem_cons.mp hm with z | hm
    · exact off q (List.mem_append_right _ hq) z
    · exact frN q.1 (hnew0 q hq) (N' q (.tail _ (List.mem_append_right _ hq))).2.1 hm
set_option maxHeartbeats 2000000
def SatT (w : World) (f : Addr) (n : Nat) (vs : List Value) (own : Led) (Post : Value → Led → Prop) : Prop :=
  ∀ (p : Program) (loose : List Str) (mean : ExcName → Option Value) (mg mb : Str → Option Value) (dp un : Nat) (gd : Option (List Code)) (cn : Str) (cs : Scope) (a : Addr) (ccd : Value) (cl : List (Str × Addr)) (outer : List Env) (A₀ : Around) (base h₀ : Heap) (L : Addr) (m : Str → Option Value) (s : Shared) (Q E : Value → Shared → Prop),
    Below A₀ base outer h₀ → Fr h₀ L s.heap m → (KF w.params).In h₀ → News h₀ L s.heap own → Top p loose mean mg mb h₀ → cs.kind = .function → dp + n < recursionLimit → un + 8 * n < cLine → (KF w.params).In base → Top p loose mean mg mb base →
    (∀ r own' h' tk' h₁,KtsTurn (frs outer) h₀ h₁ → Below A₀ base outer h₁ → Fr h₁ L h' m → (KF w.params).In h₁ → News h₁ L h' own' → Top p loose mean mg mb h₁ → (∀ b o,s.heap.get? b = some o → b ∉ own.map (·.1) → b ∉ frs (envX cn cs L a ccd cl :: outer) → h'.get? b = some o) → (∀ q ∈ own',q.1 ∉ own.map (·.1) → s.heap.get? q.1 = none) → Post r own' →
      Q r { s with heap:=h',toks:=tk' }) →
    wpAny (model PR w) (ktrTop dp un gd cn cs L a ccd cl outer) (call (.ref f) vs) Q E s
def DoneT (fs : List Addr) (g : Heap) (s : Shared) (Post : Value → Led → Prop) (v : Value) (s' : Shared) : Prop :=
  ∃ g' L' m' own' h' tk',s' = { s with heap:=h',toks:=tk' } ∧ KtsTurn fs g g' ∧ Fr g' L' h' m' ∧ News g' L' h' own' ∧ Post v own'
theorem Sat.turn {w : World} {f : Addr} {n : Nat} {vs : List Value} {own : Led} {Post : Value → Led → Prop} (S : Sat w f n vs own Post) : SatT w f n vs own Post:=by
  intro p loose mean mg mb dp un gd cn cs a ccd cl outer A₀ base h₀ L m s Q E B F X N T hck hd hu XB TB ret
  exact S p loose mean mg mb dp un gd cn cs a ccd cl outer A₀ base h₀ L m s Q E B F X N T hck hd hu fun r own' h' tk' F' N' keep fresh hP=>ret r own' h' tk' h₀ .refl B F' X N' T (fun b o hb nb _=>keep b o hb nb) fresh hP
theorem satT_of {w : World} {f : Addr} {n : Nat} {vs : List Value} {own : Led} {Post : Value → Led → Prop} {name qual : Str} {params : Arguments} {body : List Stmt} {scope : Scope} {dV kV doc pm cdv ct oc : Value} {an od : Option Addr} {osl : Array (Option Value)} {binds : List (Str × Value)}
    (ho : (KF w.params).lookup f = some ⟨oc,od,.func (fnOf name qual params body scope dV kV doc pm an cdv ct),osl⟩) (hcd : codeIn (KF w.params) cdv qual = true) (hn : 1 ≤ n)
    (hbind : ∀ s : Shared,(KF w.params).In s.heap → BindsTo s (fnOf name qual params body scope dV kV doc pm an cdv ct) ⟨vs,[]⟩ binds) (hloc : ∀ y ∈ binds,scope.names.lookup y.1 = some .local)
    (h : ∀ (p : Program) (loose : List Str) (mean : ExcName → Option Value) (mg mb : Str → Option Value) (dp un : Nat) (gd : Option (List Code)) (cn : Str) (cs : Scope) (a : Addr) (ccd : Value) (cl : List (Str × Addr)) (outer : List Env) (base g : Heap) (L L' : Addr) (h₁ : Heap) (s : Shared),
      Fr g L' h₁ (fun y=>binds.reverse.lookup y) → News g L' h₁ own → Below (ktrTop dp un gd cn cs L a ccd cl outer) base (envX cn cs L a ccd cl :: outer) g → (KF w.params).In g → Top p loose mean mg mb g → dp + n < recursionLimit → un + 8 * n < cLine → (KF w.params).In base → Top p loose mean mg mb base →
      wpAny (model PR w) ((ktrTop dp un gd cn cs L a ccd cl outer).deeper (envOf qual scope L' f cdv)) (execs body (envOf qual scope L' f cdv))
        (fun fl s'=>DoneT (frs (envX cn cs L a ccd cl :: outer)) g s Post (match fl with | .ret v=>v | _=>.none) s') (fun _ _=>False) { s with heap:=h₁,toks:=s.toks + binds.length })
    (hcell : ∀ x ∈ scope.names,x.2 ≠ .cell) (hco : scope.isCoroutine = false) (hgen : scope.isGenerator = false) (hk : scope.kind = .function) : SatT w f n vs own Post:=by
  intro p loose mean mg mb dp un gd cn cs a ccd cl outer A₀ base h₀ L m s Q E B F X N T hck hd hu XB TB ret
  refine wpAny_call ?_
  obtain ⟨FG,BG,st,_⟩:=groundX (A:=ktrTop dp un gd cn cs L a ccd cl outer) (R:=fun _ _=>True) B F N rfl rfl hck
  refine codeAny_call_def (fd:=fnOf name qual params body scope dV kV doc pm an cdv ct) (body:=body) (binds:=binds) (by show dp < recursionLimit;omega) ((X.keeps F.keep) _ _ ho) rfl (T.nolimit.keeps F.keep) (codeRec_of (X.keeps F.keep) hcd) rfl (hbind s (X.keeps F.keep)) hcell hloc (fun h₁ hns hk₁=>?_) hco hgen hk
  refine wpAny_mono (h p loose mean mg mb dp un gd cn cs a ccd cl outer base _ L s.heap.objs.size h₁ s ⟨hns,fun b o e=>hk₁ b o (of_hideAll _ e),Nat.le_of_eq (hideAll_size _ _)⟩
    (fun q hq=>⟨hk₁ _ _ (N q hq).1,Nat.ne_of_lt (Heap.lt_size (N q hq).1),hideAll_none _ (List.mem_map_of_mem hq)⟩) BG (X.keeps st) (T.keeps st) hd hu XB TB) (fun fl s' hl=>?_) fun _ _ y=>y.elim
  obtain ⟨g',L',m',own',h',tk',rfl,T',F',N',hP⟩:=hl
  have nL₀ : h₀.get? L = none:=kts_self F
  obtain ⟨oL,es,ep,hL,hLd,hLk,hLf⟩:=FG.ns
  obtain ⟨sl,hs⟩:=T'.up hL
  -- the ground turned
  obtain ⟨T₁,S₁⟩:=kts_turn_at (h:=h') (fs:=frs outer) (g:=h₀)
    (fun b hb=>by
      obtain ⟨_,o,ho',_⟩:=B.frames.mem hb
      exact ⟨o,ho'⟩)
    (fun b o e nm=>F'.keep b o (T'.other b o (st b o e) fun q=>by
      rcases frs_mem rfl q with z | z
      · rw [z,nL₀] at e;cases e
      · exact nm z))
    (fun b o e hm=>by
      obtain ⟨sl',hs'⟩:=T'.up (st b o e)
      exact ⟨sl',F'.keep _ _ hs'⟩)
  have B₃ : Below A₀ base outer (ktsHeap h' (frs outer) h₀):=⟨B.stack,fun b o e=>T₁.other b o (B.stays b o e) (fun hm=>by
    rw [(B.frames.mem hm).1] at e
    cases e),B.frames.of_keeps fun b o e _=>by
    obtain ⟨sl',hs'⟩:=T₁.up e
    exact ⟨_,hs',rfl⟩⟩
  refine ret _ own' h' tk' _ T₁ B₃ ⟨⟨_,es,ep,F'.keep _ _ hs,hLd,hLk,hLf⟩,S₁,by rw [T₁.size];exact F.above⟩ (XB.keeps B₃.stays) (fun q hq=>⟨(N' q hq).1,fun z=>?_,T₁.none_ _ ?_⟩) (TB.keeps B₃.stays) (fun b o e nb nf=>F'.keep b o (T'.other b o (hideAll_get _ e nb) nf)) (fun q hq nb=>?_) hP
  · have:=(N' q hq).2.2;rw [z,hs] at this;cases this
  · cases z : h₀.get? q.1 with
    | none=>rfl
    | some o =>
      obtain ⟨sl',hs'⟩:=T'.up (st _ _ z)
      have:=(N' q hq).2.2;rw [hs'] at this;cases this
  · cases z : s.heap.get? q.1 with
    | none=>rfl
    | some o =>
      obtain ⟨sl',hs'⟩:=T'.up (hideAll_get _ z nb)
      have:=(N' q hq).2.2;rw [hs'] at this;cases this
section
variable {prog : Program} {w : World} {A₀ : Around} {E : Value → Shared → Prop} {s' : Shared} {base g G : Heap} {outer : List Env} {L a e d : Addr} {m : Str → Option Value} {name : Str} {scope : Scope} {cd : Value}
  {n : Str} {b₀ : Stmt} {suite : List Stmt} {pos np : Pos} {rest : List ExceptHandler} {Q : Flow → Shared → Prop} {news new : Led}
  {p : Program} {loose : List Str} {mean : ExcName → Option Value} {mg mb : Str → Option Value} {x : Str}
theorem caught_D (R : RaisedD base G (envOf name scope L a cd :: outer) e d new s'.heap) (hsm : G.UpToSlots s'.heap) (K : Below A₀ base outer g) (F : Fr g L G m) (N : News g L G news) (XB : (KF w.params).In base) (TB : Top p loose mean mg mb base)
    (ex : nsIn (KF w.params) mainGlobals x = some (some (.ref 95)))
    (k : ∀ h' g' vs tk,KtsTurn (frs outer) g g' → Fr g' L h' (fun y=>if y = n then some (.ref e) else m y) → News g' L h' ((e,{ cls:=.ref 95,dict:=some d,data:=.fields vs }) :: (news ++ new)) → (∀ q ∈ news ++ new,q.1 ≠ e) → AllOff news new → Below A₀ base outer g' → (KF w.params).In g' → Top p loose mean mg mb g' →
      wpAny (model prog w) ((A₀.deeper (envOf name scope L a cd)).mark (some (.ref e))) (execs (b₀ :: suite) (envOf name scope L a cd))
        (fun f s₄=>wpAny (model prog w) (A₀.deeper (envOf name scope L a cd)) (do bindName (envOf name scope L a cd) n .none;unbindBehindTheSuite (envOf name scope L a cd) n pos) (fun _ s₅=>Q f s₅) E s₄)
        (AsSuiteRaised (model prog w) ((A₀.deeper (envOf name scope L a cd)).mark (some (.ref e))) (envOf name scope L a cd) n pos (notedBy (model prog w) ((A₀.deeper (envOf name scope L a cd)).mark (some (.ref e))) (envOf name scope L a cd) (cameBackBy (model prog w) (A₀.deeper (envOf name scope L a cd)) (envOf name scope L a cd) E)))
        { s' with heap:=h',toks:=tk })
    (hk : scope.kind = .function:=by rfl) (hlo : (envOf name scope L a cd).kindOf n = some .local:=by rfl) (hx : (envOf name scope L a cd).kindOf x = some .globalImplicit:=by rfl) (hd : (x == ("__debug__" : Str)) = false:=by decide) :
    wpAny (model prog w) (A₀.deeper (envOf name scope L a cd)) (noteFrame (.ref e) (envOf name scope L a cd))
      (fun _ s₂=>wpAny (model prog w) (A₀.deeper (envOf name scope L a cd)) (setFlight (.ref e) none) (fun _ s₃ =>
        wpAny (model prog w) (A₀.deeper (envOf name scope L a cd)) (handleBy (.ref e) (envOf name scope L a cd) (.ExceptHandler (some (.Name x np)) (some n) (b₀ :: suite) pos :: rest)) Q E s₃) E s₂) E s':=by
  refine gen fun G9 hG9=>?_
  obtain ⟨B,hB,hBG,hl,hfl⟩:=R
  have eN : G.get? e = none:=by
    cases q : G.get? e with
    | none=>rfl
    | some o =>
      by_cases hm : e ∈ frs (envOf name scope L a cd :: outer)
      · obtain ⟨_,o',ho',hn⟩:=hfl.2.2.1.mem hm
        obtain ⟨oe,vs,T,oT,ts,he,_,hd',_⟩:=hfl.2.2.2
        rw [he] at ho';cases ho'
        exact absurd hd' (hn vs)
      · have:=hBG e o q hm;rw [hfl.2.1] at this;cases this
  have hL : B.get? L = none:=by
    obtain ⟨_,⟨L',_,hf,hn',_⟩,_⟩:=hfl.2.2.1
    obtain rfl : L = L':=Option.some.inj hf
    exact hn'
  refine hG9 ?_
  refine note_next (Around.frames_deeper K.stack) rfl hfl fun h₄ hf₄ u₄=>?_
  refine fly_set hf₄ fun h₅ hf₅ u₅=>?_
  refine gen fun G8 hG8=>?_
  have z₅:=hsm.trans (u₄.trans u₅)
  obtain ⟨g₅,T₅,F₅,K₅⟩:=kts_ground K F hBG hf₅.1 z₅
  have X₅ : (KF w.params).In g₅:=XB.keeps K₅.stays
  have P₅ : TopRead p loose mg mb g₅:=topRead_of (TB.keeps K₅.stays)
  obtain ⟨oe,vs,T,oT,ts,he,hc,_⟩:=id hf₅.2.2.2
  obtain ⟨nm,q',N9,bs,hdct,sn,sub,ab,col,dd,k0,k1,k2,k3,k5,hC⟩:=exc_cls X₅
  have hC₅:=F₅.keep _ _ hC
  refine hG8 ?_
  refine wpAny_handleBy_cons (codeAny_handlers_test (name_K F₅ X₅ P₅ ex ?_ hk hx hd)) (by intro q;cases q)
  refine wpAny_excMatches_sub_self hC₅ he hc.1 (by decide) (codeAny_handlers_suite_as ?_)
  refine fly_set hf₅ fun h₆ hf₆ u₆=>?_
  refine gen fun G7 hG7=>?_
  have z₆:=z₅.trans u₆
  obtain ⟨g₆,T₆,F₆,K₆⟩:=kts_ground K F hBG hf₆.1 z₆
  obtain ⟨oe6,vs6,T6,oT6,ts6,he6,hc6,hd6,_⟩:=id hf₆.2.2.2
  have fr6 : ∀ b,G.get? b = none → g₆.get? b = none:=fun b hb=>T₆.none_ _ (none_of F.keep hb)
  have Nn : News g₆ L h₆ new:=fun q hq=>⟨hf₆.1 _ _ (hl q hq).1,(fun z=>by have:=(hl q hq).1;rw [z,hL] at this;cases this),fr6 _ (hl q hq).2⟩
  have No : News g₆ L h₆ news:=fun q hq=>⟨hf₆.1 _ _ (hBG _ _ (N q hq).1 fun hm=>by
    rcases frs_mem rfl hm with z | z
    · exact (N q hq).2.1 z
    · exact not_fr K.frames (N q hq).2.2 z),(N q hq).2.1,T₆.none_ _ (N q hq).2.2⟩
  obtain ⟨c6,dc6,dt6,sl6⟩:=oe6
  obtain ⟨r1,r2,r3⟩:=hc6
  dsimp only at r1 r2 r3 hd6
  subst r1 r2 r3 hd6
  have N6 : News g₆ L h₆ (news ++ new):=fun q hq=>(List.mem_append.mp hq).elim (No q) (Nn q)
  have offe : ∀ q ∈ news ++ new,q.1 ≠ e:=fun q hq z=>by
    rcases List.mem_append.mp hq with hq | hq
    · have:=(N q hq).1;rw [z,eN] at this;cases this
    · have:=(hl q hq).1;rw [z,hfl.2.1] at this;cases this
  have offn : AllOff news new:=allOff_of fun p hp q hq z=>by
    have:=(hl q hq).2;rw [z,(N p hp).1] at this;cases this
  have Ne : News g₆ L h₆ ((e,{ cls:=.ref 95,dict:=some d,data:=.fields vs6 }) :: (news ++ new)):=fun q hq=>by
    rcases List.mem_cons.mp hq with rfl | hq
    · refine ⟨he6,fun z=>?_,fr6 _ eN⟩
      obtain ⟨o9,es9,n9,ho9,hd9,_⟩:=F.ns
      rw [← z,eN] at ho9;cases ho9
    · exact N6 q hq
  refine hG7 ?_
  refine stN F₆ Ne (fun h₇ F₇ N₇=>?_) hk hlo
  exact k h₇ g₆ vs6 _ T₆ F₇ N₇ offe offn K₆ (XB.keeps K₆.stays) (TB.keeps K₆.stays)
end
set_option maxHeartbeats 2000000
section
variable {prog : Program} {w : World} {A : Around} {E : Value → Shared → Prop} {s : Shared} {env : Env} {ex : PySem.Expr} {pos : Pos} {Q : Flow → Shared → Prop}
theorem raise_stmt {x : Sem Value} (hh : A.handled = none)
    (h : wpAny (model prog w) A x (fun v s₁=>∃ e d t,v = .ref e ∧ (KF w.params).In s₁.heap ∧ s₁.heap.get? e = some (excO 95 d t) ∧ E (.ref e) s₁) E s) :
    wpAny (model prog w) A (raiseStmt env (some x) none) Q E s:=by
  unfold raiseStmt
  refine wpAny_bind (wpAny_mono h (fun v s₁ h₁=>?_) fun _ _ x=>x)
  obtain ⟨e,d,t,rfl,X,he,hE⟩:=h₁
  obtain ⟨nm,q',N9,bs,hdct,sn,sub,ab,col,dd,k0,k1,k2,k3,k5,hC⟩:=exc_cls X
  have hcB : (Value.ref 95 :: [.ref 82,.type "Exception",.type "BaseException",.type "object"]).contains (.type "BaseException") = true:=by decide
  obtain ⟨hp,g,dr,tk,os⟩:=s₁
  repeat (first | with_reducible refine wpAny_loadPart_at he ?_ | with_reducible refine wpAny_loadPart_at hC ?_|(with_reducible refine wpAny_isSubtype_exc hC ?_;rw [hcB])|wp_step)
  exact wpAny_raiseNew_none hh hE
theorem raise_inst (hh : A.handled = none)
    (h : wpAny (model prog w) A (eval ex env) (fun v s₁=>∃ e d t,v = .ref e ∧ (KF w.params).In s₁.heap ∧ s₁.heap.get? e = some (excO 95 d t) ∧ E (.ref e) s₁) E s) :
    wpAny (model prog w) A (exec (.Raise (some ex) none pos) env) Q E s:=by
  rw [arm_exec_Raise]
  refine wpAny_bind (wpAny_standAt (raise_stmt hh (wpAny_bind (wpAny_mono h (fun v s₁ h₁=>wpAny_bind (wpAny_standAt (wpAny_pure h₁))) fun _ _ x=>x))))
end
def PosIn (tl : Led) (r : Value) (j : Int) : Prop:=∃ ps pd h1 u1 t h2 u2 v2 h3 u3 v3,r = .ref ps ∧ (ps,instObj 46 pd) ∈ tl ∧ (pd,dictOf [⟨h1,.str (Str.ofString "offset") u1,.int j t⟩,⟨h2,.str (Str.ofString "line") u2,v2⟩,⟨h3,.str (Str.ofString "column") u3,v3⟩] 3) ∈ tl
theorem range_none {prog : Program} {w : World} {A : Around} {E : Value → Shared → Prop} {s : Shared} {h₀ : Heap} {m : Str → Option Value} {env : Env} {news : Led} {body : List Stmt} {Q : Flow → Shared → Prop} {x : Str} {px : Pos} {r : Addr} {t u v : Tok}
    (hr : IsRange s.heap r 0 0 1 t u v) (hh : A.handled = none) (F : Fr h₀ env.locals s.heap m) (N : News h₀ env.locals s.heap news)
    (fin : ∀ h' tk,Fr h₀ env.locals h' m → News h₀ env.locals h' news → Q .next { s with heap:=h',toks:=tk }) :
    wpAny (model prog w) A (pyIter (.ref r)) (fun it s₂=>TurnsAt prog w A h₀ env (.Name x px) body Q E it s₂) E s :=
  range_turns (n:=0) hr (by decide) (by decide) hh F N (fun _ m' n'=>m' = m ∧ n' = news) ⟨rfl,rfl⟩ (fun i _ _ _ _ _ _ _ h=>absurd h (Nat.not_lt_zero i)) fun h' tk m' n' F' N' e=>by
    obtain ⟨rfl,rfl⟩:=e
    exact fin h' tk F' N'
theorem range_pass {w : World} {A : Around} {E : Value → Shared → Prop} {s : Shared} {h₀ : Heap} {m : Str → Option Value} {env : Env} {news : Led} {body : List Stmt} {Q : Flow → Shared → Prop} {x : Str} {px : Pos} {r : Addr} {b : Int} {t u v : Tok} {n : Nat}
    (hr : IsRange s.heap r 0 b 1 t u v) (hsm : Builtin.Range.small 0 b 1 = true) (hn : Builtin.Range.rangeSize 0 b 1 = ((n : Nat) : Int)) (hh : A.handled = none) (F : Fr h₀ env.locals s.heap m) (N : News h₀ env.locals s.heap news)
    (step : ∀ i y c h₁ tk₁ (I : Addr) oI,i < n → Fr h₀ env.locals h₁ (fun z=>if z = x then c else m z) → News h₀ env.locals h₁ ((I,oI) :: news) → (∀ p ∈ news,p.1 ≠ I) →
      wpAny (model PR w) A (assign (.Name x px) env (.int (0 + (i : Int)) y)) (fun _ s₃=>wpAny (model PR w) A (execs body env) (TurnEnd h₀ env.locals I oI (PJ x m news) { s with heap:=h₁,toks:=tk₁ } Q) E s₃) E { s with heap:=h₁,toks:=tk₁ })
    (fin : ∀ h' tk c,Fr h₀ env.locals h' (fun z=>if z = x then c else m z) → News h₀ env.locals h' news → Q .next { s with heap:=h',toks:=tk }) :
    wpAny (model PR w) A (pyIter (.ref r)) (fun it s₂=>TurnsAt PR w A h₀ env (.Name x px) body Q E it s₂) E s :=
  range_turns hr hsm hn hh F N (fun _=>PJ x m news) ⟨rfl,m x,funext fun z=>by by_cases h : z = x <;> simp [h]⟩
    (fun i y m₁ news₁ h₁ tk₁ I oI hi J F₁ N₁ off=>by
      obtain ⟨rfl,c,rfl⟩:=J
      exact step i y c h₁ tk₁ I oI hi F₁ N₁ off)
    (fun h' tk m' news' F' N' J=>by
      obtain ⟨rfl,c,rfl⟩:=J
      exact fin h' tk c F' N')
theorem fin_pos {V : Led → Value → Prop} {news : Led} {g h' : Heap} {s : Shared} {L' : Addr} {m' : Str → Option Value} {v : Value} {tk' : Nat}
    (F : Fr g L' h' m') (N : News g L' h' news) (hV : V news v) : Done g s (RO [] V) v { s with heap:=h',toks:=tk' }:=fin_ro F N news (fun _ h=>h) trivial hV
theorem pos0 (w : World) {tx : Str} (u u2 : Tok) (hl : tx.length ≤ 1000) : Sat w 57 6 [.str tx u,.int 0 u2] [] (RO [] (fun tl r=>PosIn tl r 0)):=by
  have e1 : ¬ ((0 : Int) > 0):=by decide
  have e2 : ¬ ((tx.length : Int) < 0):=by lia
  refine' sat_of (binds:=[(Str.ofString "text",.str tx u),(Str.ofString "offset",.int 0 u2)]) ?ho ?hcd ?hn ?hbind ?hloc ?h ?hcell ?hco ?hgen ?hk
  (case ho=>k_is);(case hcd=>k_is);(case hn=>first | decide | lia);(case hbind=>intro s X;first | exact BindsTo.of_eq rfl | exact binds_K X rfl (by k_is) rfl rfl rfl);(case hloc=>exact locs rfl)
  (case hcell=>decide);(case hco=>rfl);(case hgen=>rfl);(case hk=>rfl)
  intros
  repeat' (first|(k_unfold;(try dsimp only))|(k_here;(with_reducible show wpAny _ _ (exec (Stmt.For (PySem.Expr.Name _ _) (PySem.Expr.Call _ _ _ _) _ _ _) _) _ _ _);(rename Fr _ _ _ _=>qlF');(with_unfolding_all refine' no_implicit_lambda% (For_turns qlF' ?_);k_whole))|walk1|(refine StD.nx (by with_reducible assumption) _ ?_)|(refine StD.rt (by with_reducible assumption) _ _ ?_)|(refine Ups.up (by with_reducible assumption) _ _ ?_;(try dsimp only))|(k_end;wrow_close)|dsimp only|(leave1;try dsimp only))
  simp only [if_neg e1,if_neg e2] at *
  refine' range_none (by assumption) (by rfl) (by assumption) (by assumption) ?_
  intro h' tk' F' N'
  repeat' (first|(k_unfold;(try dsimp only))|walk1|(refine StD.nx (by with_reducible assumption) _ ?_)|(refine StD.rt (by with_reducible assumption) _ _ ?_)|(refine Ups.up (by with_reducible assumption) _ _ ?_;(try dsimp only))|(k_end;wrow_close)|(dsimp only;walk1)|(leave1;try dsimp only))
  rename News _ _ _ _=>N9
  exact fin_pos (by assumption) N9 ⟨_,_,_,_,_,_,_,_,_,_,_,rfl,.head _,.tail _ (.head _)⟩
theorem pos2 (w : World) {tx : Str} {l : List Nat} (u u2 : Tok) (hl : tx.length ≤ 1000) (ha : At tx 0 (113 :: 32 :: l)) : Sat w 57 6 [.str tx u,.int 2 u2] [] (RO [] (fun tl r=>PosIn tl r 2)):=by
  have e1 : ¬ ((0 : Int) > 2):=by decide
  have hn:=ha.len
  simp only [List.length_cons] at hn
  have e2 : ¬ ((tx.length : Int) < 2):=by lia
  have ha1:=ha.next
  refine' sat_of (binds:=[(Str.ofString "text",.str tx u),(Str.ofString "offset",.int 2 u2)]) ?ho ?hcd ?hn ?hbind ?hloc ?h ?hcell ?hco ?hgen ?hk
  (case ho=>k_is);(case hcd=>k_is);(case hn=>first | decide | lia);(case hbind=>intro s X;first | exact BindsTo.of_eq rfl | exact binds_K X rfl (by k_is) rfl rfl rfl);(case hloc=>exact locs rfl)
  (case hcell=>decide);(case hco=>rfl);(case hgen=>rfl);(case hk=>rfl)
  intros
  repeat' (first|(k_unfold;(try dsimp only))|(k_here;(with_reducible show wpAny _ _ (exec (Stmt.For (PySem.Expr.Name _ _) (PySem.Expr.Call _ _ _ _) _ _ _) _) _ _ _);(rename Fr _ _ _ _=>qlF');(with_unfolding_all refine' no_implicit_lambda% (For_turns qlF' ?_);k_whole))|walk1|(refine StD.nx (by with_reducible assumption) _ ?_)|(refine StD.rt (by with_reducible assumption) _ _ ?_)|(refine Ups.up (by with_reducible assumption) _ _ ?_;(try dsimp only))|(k_end;wrow_close)|dsimp only|(leave1;try dsimp only))
  simp only [if_neg e1,if_neg e2] at *
  rename Fr _ _ _ _=>F9
  refine' range_pass (n:=2) (by assumption) (by decide) (by decide) (by rfl) F9 (by assumption) ?step ?fin
  case step =>
    clear F9
    intro i y c h₁ tk₁ I oI hi F₁ N₁ off
    rcases (show i = 0 ∨ i = 1 by lia) with rfl | rfl
    · have hA : At tx (0 + ((0 : Nat) : Int)) (113 :: 32 :: l):=ha
      repeat' (first|(k_unfold;(try dsimp only))|(k_here;(with_reducible show wpAny _ _ (subscriptTail _ _ (Value.str _ _) (Value.int _ _)) _ _ _);k_dflt (refine' no_implicit_lambda% (item_at ?hl ?ha ?_);(case hl | ha=>assumption)))|walk1|(refine StD.nx (by with_reducible assumption) _ ?_)|(refine StD.rt (by with_reducible assumption) _ _ ?_)|(refine Ups.up (by with_reducible assumption) _ _ ?_;(try dsimp only))|(k_end;wrow_close)|dsimp only|(leave1;try dsimp only))
      exact pass_next (by assumption) (by assumption) off
    · have hA : At tx (0 + ((1 : Nat) : Int)) (32 :: l):=ha1
      repeat' (first|(k_unfold;(try dsimp only))|(k_here;(with_reducible show wpAny _ _ (subscriptTail _ _ (Value.str _ _) (Value.int _ _)) _ _ _);k_dflt (refine' no_implicit_lambda% (item_at ?hl ?ha ?_);(case hl | ha=>assumption)))|walk1|(refine StD.nx (by with_reducible assumption) _ ?_)|(refine StD.rt (by with_reducible assumption) _ _ ?_)|(refine Ups.up (by with_reducible assumption) _ _ ?_;(try dsimp only))|(k_end;wrow_close)|dsimp only|(leave1;try dsimp only))
      exact pass_next (by assumption) (by assumption) off
  case fin =>
    clear F9
    intro h' tk' c F' N'
    repeat' (first|(k_unfold;(try dsimp only))|walk1|(refine StD.nx (by with_reducible assumption) _ ?_)|(refine StD.rt (by with_reducible assumption) _ _ ?_)|(refine Ups.up (by with_reducible assumption) _ _ ?_;(try dsimp only))|(k_end;wrow_close)|(dsimp only;walk1)|(leave1;try dsimp only))
    rename News _ _ _ _=>N9
    exact fin_pos (by assumption) N9 ⟨_,_,_,_,_,_,_,_,_,_,_,rfl,.head _,.tail _ (.head _)⟩
set_option maxHeartbeats 2000000
section
variable {w : World} {news : Led} {p : Program} {loose : List Str} {mean : ExcName → Option Value} {mg mb : Str → Option Value} {dp un : Nat} {gd : Option (List Code)} {cn : Str} {cs : Scope} {a : Addr} {ccd : Value} {cl : List (Str × Addr)} {outer : List Env} {A₀ : Around} {base h₀ : Heap} {L : Addr} {m : Str → Option Value} {s : Shared} {Q E : Value → Shared → Prop}
theorem use_exc {what : Str} {u : Tok} {ps : Addr} (B : Below A₀ base outer h₀) (F : Fr h₀ L s.heap m) (X : (KF w.params).In h₀) (N : News h₀ L s.heap news) (T : Top p loose mean mg mb h₀) (hk : cs.kind = .function) (hd : dp + 5 < recursionLimit) (hu : un + 40 < cLine)
    (ret : ∀ e d t h1 u1 h2 u2 h' tk',Fr h₀ L h' m → News h₀ L h' ((e,excO 95 (some d) t) :: (d,dictOf [⟨h1,.str (Str.ofString "what") u1,.str what u⟩,⟨h2,.str (Str.ofString "at") u2,.ref ps⟩] 2) :: news) → AllOff news [(e,excO 95 (some d) t),(d,dictOf [⟨h1,.str (Str.ofString "what") u1,.str what u⟩,⟨h2,.str (Str.ofString "at") u2,.ref ps⟩] 2)] → e ≠ d → Q (.ref e) { s with heap:=h',toks:=tk' }) :
    wpAny (model PR w) (ktrTop dp un gd cn cs L a ccd cl outer) (call (.ref 95) [.str what u,.ref ps]) Q E s:=by
  obtain ⟨hp,g,dr,tk,os⟩:=s
  refine exc_call_95 (X.keeps F.keep) (by show 2 ≤ _;rw [sizeLine_eq];decide) ?_
  rw [under_top]
  have N1:=N.push F { cls:=.type "tuple",data:=.seq [Value.str what u,.ref ps].toArray }
  have F1:=F.push { cls:=.type "tuple",data:=.seq [Value.str what u,.ref ps].toArray }
  have N2:=N1.push F1 (excO 95 none hp.objs.size)
  have F2:=F1.push (excO 95 none hp.objs.size)
  rw [Heap.size_push] at N2
  have ne : @Ne Nat (hp.objs.size + 1) hp.objs.size:=Nat.succ_ne_self _
  have lo : ∀ q ∈ news,q.1 < hp.objs.size:=fun q hq=>Heap.lt_size (N q hq).1
  refine init_sat w (hp.objs.size + 1) hp.objs.size what u ps { cls:=.type "tuple",data:=.seq [Value.str what u,.ref ps].toArray } ne p loose mean mg mb (dp + 1) (un + 1) gd cn cs a ccd cl outer A₀ base h₀ L m _ _ E B F2 X (fun q hq=>N2 q ?_) T hk (by omega) (by omega) fun r own' h' tk' F' N' keep fresh hP=>⟨hP.1,?_⟩
  · rcases List.mem_cons.mp hq with rfl | hq
    · exact .head _
    · rcases List.mem_cons.mp hq with rfl | hq
      · exact .tail _ (.head _)
      · cases hq
  · obtain ⟨_,d,t',h1,u1,h2,u2,rfl,l1,l2⟩:=hP
    have hd9 : ∀ q ∈ news,q.1 < d:=fun q hq=>Nat.lt_trans (lo q hq) l2
    refine ret (hp.objs.size + 1) d t' h1 u1 h2 u2 h' tk' F' (fun q hq=>?_) (allOff_of fun p hp q hq=>?_) (Nat.ne_of_lt l1)
    · rcases List.mem_cons.mp hq with rfl | hq
      · exact N' _ (.tail _ (.head _))
      · rcases List.mem_cons.mp hq with rfl | hq
        · exact N' _ (.head _)
        · refine ⟨keep _ _ (N2 q (.tail _ (.tail _ hq))).1 fun hm=>?_,(N q hq).2⟩
          simp only [List.map_cons,List.map_nil,List.mem_cons,List.not_mem_nil,or_false] at hm
          have:=lo q hq
          rcases hm with z | z <;> (rw [z] at this;exact absurd this (by simp [Nat.lt_irrefl]))
    · have:=lo p hp
      rcases List.mem_cons.mp hq with rfl | hq
      · exact Nat.ne_of_gt (Nat.lt_succ_of_lt this)
      · rcases List.mem_cons.mp hq with rfl | hq
        · exact Nat.ne_of_gt (hd9 p hp)
        · cases hq
end
set_option maxHeartbeats 2000000
theorem pos0r (w : World) {tx : Str} (u u2 : Tok) (hl : tx.length ≤ 1000) : Sat w 57 6 [.str tx u,.int 0 u2] [] (fun r own'=>∃ ps,r = .ref ps ∧ PosIn own' (.ref ps) 0):=(pos0 w u u2 hl).rw (by
  rintro v o ⟨tl,rfl,⟨ps,pd,h1,u1,t,h2,u2,v2,h3,u3,v3,rfl,m1,m2⟩,_⟩
  exact ⟨ps,rfl,ps,pd,h1,u1,t,h2,u2,v2,h3,u3,v3,rfl,m1,m2⟩)
theorem pos2r (w : World) {tx : Str} {l : List Nat} (u u2 : Tok) (hl : tx.length ≤ 1000) (ha : At tx 0 (113 :: 32 :: l)) : Sat w 57 6 [.str tx u,.int 2 u2] [] (fun r own'=>∃ ps,r = .ref ps ∧ PosIn own' (.ref ps) 2):=(pos2 w u u2 hl ha).rw (by
  rintro v o ⟨tl,rfl,⟨ps,pd,h1,u1,t,h2,u2,v2,h3,u3,v3,rfl,m1,m2⟩,_⟩
  exact ⟨ps,rfl,ps,pd,h1,u1,t,h2,u2,v2,h3,u3,v3,rfl,m1,m2⟩)
def ExcIn (tl : Led) (d : Addr) (j : Int) : Prop:=∃ h1 u1 v1 h2 u2 v2,(d,dictOf [⟨h1,.str (Str.ofString "what") u1,v1⟩,⟨h2,.str (Str.ofString "at") u2,v2⟩] 2) ∈ tl ∧ PosIn tl v2 j
theorem PosIn.up {tl tl' : Led} {v : Value} {j : Int} (h : ∀ q ∈ tl,q ∈ tl') : PosIn tl v j → PosIn tl' v j:=by
  rintro ⟨ps,pd,h1,u1,t,h2,u2,v2,h3,u3,v3,rfl,m1,m2⟩
  exact ⟨ps,pd,h1,u1,t,h2,u2,v2,h3,u3,v3,rfl,h _ m1,h _ m2⟩
theorem ExcIn.up {tl tl' : Led} {d : Addr} {j : Int} (h : ∀ q ∈ tl,q ∈ tl') : ExcIn tl d j → ExcIn tl' d j:=by
  rintro ⟨h1,u1,v1,h2,u2,v2,m,p⟩
  exact ⟨h1,u1,v1,h2,u2,v2,h _ m,p.up h⟩
def Fails (j : Int) (tl : Led) (v : Value) : Prop:=∃ e d t rest,v = .ref e ∧ tl = (e,excO 95 (some d) t) :: rest ∧ Off rest e ∧ ExcIn rest d j
theorem fin_fails {own tl : Led} {e d t ps : Addr} {h1 h2 j : Int} {u1 u2 : Tok} {v1 : Value} {g h' : Heap} {s : Shared} {L' : Addr} {m' : Str → Option Value} {tk' : Nat} {D : Obj} (hD : D = dictOf [⟨h1,.str (Str.ofString "what") u1,v1⟩,⟨h2,.str (Str.ofString "at") u2,.ref ps⟩] 2)
    (F : Fr g L' h' m') (N : News g L' h' ((e,excO 95 (some d) t) :: (d,D) :: (own ++ tl))) (hO : AllOff own tl) (O9 : AllOff (own ++ tl) [(e,excO 95 (some d) t),(d,D)]) (ne : e ≠ d) (hP : PosIn tl (.ref ps) j) : Done g s (RO own (Fails j)) (.ref e) { s with heap:=h',toks:=tk' }:=by
  refine fin_ro F N ((e,excO 95 (some d) t) :: (d,D) :: tl) (fun q hq=>?_) (allOff_of fun p hp q hq=>?_) ⟨e,d,t,_,rfl,rfl,fun q hq=>?_,h1,u1,v1,h2,u2,.ref ps,?_,hP.up fun q hq=>.tail _ hq⟩
  · simp only [List.mem_append,List.mem_cons] at hq ⊢
    rcases hq with h | h | h | h <;> simp [h]
  · have z:=(allOff_app.mp O9).1
    rcases List.mem_cons.mp hq with rfl | hq
    · exact z.mem p hp _ (.head _)
    · rcases List.mem_cons.mp hq with rfl | hq
      · exact z.mem p hp _ (.tail _ (.head _))
      · exact hO.mem p hp q hq
  · rcases List.mem_cons.mp hq with rfl | hq
    · exact Ne.symm ne
    · exact Ne.symm (O9.mem q (List.mem_append_right _ hq) _ (.head _))
  · rw [hD];exact .head _
section
variable (w : World) (R : RK) (k : Int) (t5 : Tok) (i : Int) (t4 : Tok) (hl : R.tx.length ≤ 1000) {l : List Nat} (what : Str) (u u2 : Tok)
include hl
theorem failed0 : Sat w 773 12 [.ref R.r,.str what u,.int 0 u2] (rdrT R k t5 i t4 []) (RO (rdrT R k t5 i t4 []) (Fails 0)):=by
  refine' sat_of (binds:=[(Str.ofString "self",.ref R.r),(Str.ofString "what",.str what u),(Str.ofString "at",.int 0 u2)]) ?ho ?hcd ?hn ?hbind ?hloc ?h ?hcell ?hco ?hgen ?hk
  (case ho=>k_is);(case hcd=>k_is);(case hn=>first | decide | lia);(case hbind=>intro s X;first | exact BindsTo.of_eq rfl | exact binds_K X rfl (by k_is) rfl rfl rfl);(case hloc=>exact locs rfl)
  (case hcell=>decide);(case hco=>rfl);(case hgen=>rfl);(case hk=>rfl)
  intros
  repeat' (first|(k_unfold;(try dsimp only))|((with_reducible show wpAny _ _ (call _ _) _ _ _);first|(k_here;(with_reducible show wpAny _ _ (call (Value.ref 57) [_,Value.int 0 _]) _ _ _);k_dflt (refine' no_implicit_lambda% (use_newR (pos0r _ _ _ ?hl) ?B ?F ?X ?N ?T ?kk ?dd ?uu ?_);tb_rel;(case hl=>assumption));intro qps' qtl' qh' qtk' qF' qN' qhP' qhO';(try simp only [List.cons_append,List.nil_append,List.append_assoc] at qN');(try k_sweep))|(k_here;(with_reducible show wpAny _ _ (call (Value.ref 95) _) _ _ _);k_dflt (refine' no_implicit_lambda% (use_exc ?B ?F ?X ?N ?T ?kk ?dd ?uu ?_);tb_rel);intro qe' qd' qt' qh1' qu1' qh2' qu2' qh' qtk' qF' qN' qO' qne';(try k_sweep)))|(k_here;(with_reducible show wpAny _ _ (eval (PySem.Expr.Attribute (PySem.Expr.Name _ _) _ _) _) _ _ _);k_dflt (refine' no_implicit_lambda% (at_own ?O ?F ?X ?N ?hm ?m1 ?m2 ?hl ?hv ?_);(case F=>k_asm);(case X=>k_in);(case N=>k_asm);(case hm=>exact rfl);(case m1 | m2=>k_mem);(case hl=>exact rfl);(case hv=>k_handed);(case O=>first | exact ow1 _ | exact ow5 _ | exact ow6 _ | exact ow2 _ | exact ow3 _ | exact ow4 _ | exact ⟨by k_is,by k_is,_,by k_is,by k_is⟩)))|walk1|(refine StD.nx (by with_reducible assumption) _ ?_)|(refine StD.rt (by with_reducible assumption) _ _ ?_)|(refine Ups.up (by with_reducible assumption) _ _ ?_;(try dsimp only))|(k_end;wrow_close)|dsimp only|(leave1;try dsimp only))
  rename News _ _ _ _=>N9
  exact fin_fails (own:=rdrT R k t5 i t4 []) rfl (by assumption) N9 (by assumption) (by assumption) (by assumption) (by assumption)
theorem failed2 (ha : At R.tx 0 (113 :: 32 :: l)) : Sat w 773 12 [.ref R.r,.str what u,.int 2 u2] (rdrT R k t5 i t4 []) (RO (rdrT R k t5 i t4 []) (Fails 2)):=by
  refine' sat_of (binds:=[(Str.ofString "self",.ref R.r),(Str.ofString "what",.str what u),(Str.ofString "at",.int 2 u2)]) ?ho ?hcd ?hn ?hbind ?hloc ?h ?hcell ?hco ?hgen ?hk
  (case ho=>k_is);(case hcd=>k_is);(case hn=>first | decide | lia);(case hbind=>intro s X;first | exact BindsTo.of_eq rfl | exact binds_K X rfl (by k_is) rfl rfl rfl);(case hloc=>exact locs rfl)
  (case hcell=>decide);(case hco=>rfl);(case hgen=>rfl);(case hk=>rfl)
  intros
  repeat' (first|(k_unfold;(try dsimp only))|((with_reducible show wpAny _ _ (call _ _) _ _ _);first|(k_here;(with_reducible show wpAny _ _ (call (Value.ref 57) [_,Value.int 2 _]) _ _ _);k_dflt (refine' no_implicit_lambda% (use_newR (pos2r _ _ _ ?hl ?ha) ?B ?F ?X ?N ?T ?kk ?dd ?uu ?_);tb_rel;(case hl | ha=>assumption));intro qps' qtl' qh' qtk' qF' qN' qhP' qhO';(try simp only [List.cons_append,List.nil_append,List.append_assoc] at qN');(try k_sweep))|(k_here;(with_reducible show wpAny _ _ (call (Value.ref 95) _) _ _ _);k_dflt (refine' no_implicit_lambda% (use_exc ?B ?F ?X ?N ?T ?kk ?dd ?uu ?_);tb_rel);intro qe' qd' qt' qh1' qu1' qh2' qu2' qh' qtk' qF' qN' qO' qne';(try k_sweep)))|(k_here;(with_reducible show wpAny _ _ (eval (PySem.Expr.Attribute (PySem.Expr.Name _ _) _ _) _) _ _ _);k_dflt (refine' no_implicit_lambda% (at_own ?O ?F ?X ?N ?hm ?m1 ?m2 ?hl ?hv ?_);(case F=>k_asm);(case X=>k_in);(case N=>k_asm);(case hm=>exact rfl);(case m1 | m2=>k_mem);(case hl=>exact rfl);(case hv=>k_handed);(case O=>first | exact ow1 _ | exact ow5 _ | exact ow6 _ | exact ow2 _ | exact ow3 _ | exact ow4 _ | exact ⟨by k_is,by k_is,_,by k_is,by k_is⟩)))|walk1|(refine StD.nx (by with_reducible assumption) _ ?_)|(refine StD.rt (by with_reducible assumption) _ _ ?_)|(refine Ups.up (by with_reducible assumption) _ _ ?_;(try dsimp only))|(k_end;wrow_close)|dsimp only|(leave1;try dsimp only))
  rename News _ _ _ _=>N9
  exact fin_fails (own:=rdrT R k t5 i t4 []) rfl (by assumption) N9 (by assumption) (by assumption) (by assumption) (by assumption)
end
set_option maxHeartbeats 2000000
theorem fin_pat {ex tl rest : Led} {D x d : Addr} {o1 o2 o3 : Obj} {V : Led → Value → Prop} {g h' : Heap} {s : Shared} {L' : Addr} {m' : Str → Option Value} {v : Value} {tk' : Nat}
    (F : Fr g L' h' m') (N : News g L' h' ((D,o1) :: (x,o2) :: (d,o3) :: rest)) (hs : ∀ q ∈ ex ++ tl,q ∈ rest) (lD : AllLt D ((x,o2) :: (d,o3) :: rest)) (lx : @LT.lt Nat _ d x) (ld : AllLt d rest) (O : AllOff ex tl) (hV : V ((D,o1) :: (x,o2) :: (d,o3) :: tl) v) :
    Done g s (RO ex V) v { s with heap:=h',toks:=tk' }:=by
  have he : ∀ q ∈ ex,q ∈ rest:=fun q hq=>hs q (List.mem_append_left _ hq)
  refine fin_ro F N ((D,o1) :: (x,o2) :: (d,o3) :: tl) (fun q hq=>?_) (.lt (allLt_sub lD fun q hq=>.tail _ (.tail _ (he q hq))) (.lt (allLt_up (allLt_sub ld he) lx) (.lt (allLt_sub ld he) O))) hV
  rcases List.mem_append.mp hq with hq | hq
  · exact .tail _ (.tail _ (.tail _ (he q hq)))
  · rcases List.mem_cons.mp hq with rfl | hq
    · exact .head _
    · rcases List.mem_cons.mp hq with rfl | hq
      · exact .tail _ (.head _)
      · rcases List.mem_cons.mp hq with rfl | hq
        · exact .tail _ (.tail _ (.head _))
        · exact .tail _ (.tail _ (.tail _ (hs q (List.mem_append_right _ hq))))
section
variable (w : World) {ex : Led} {dv : Value} {tx : Str} {T : Tr} {n : Nat} {f : Int → Int} {u u2 : Tok} {j : Int} {x : Nat} {l l' : List Nat}
def PatIn (tl : Led) (T : Tr) (j : Int) (v : Value) : Prop:=∃ tp pa pd t h1 t1 h2 t2 h3 t3 b,v = .ref tp ∧ (tp,tup #[.ref pa,.int j t]) ∈ tl ∧ (pa,instObj 734 pd) ∈ tl ∧ (pd,dictOf [⟨h1,.str (Str.ofString "body") t1,b⟩,⟨h2,.str (Str.ofString "begins") t2,.bool false⟩,⟨h3,.str (Str.ofString "trail") t3,.none⟩] 3) ∈ tl ∧ NodeIn tl T b
theorem pattern_ok (hR : TopReads w ex dv true tx T n 2 j) (hl : tx.length ≤ 1000) (ha : At tx 2 (x :: l)) (hx : (hdS (x :: l) == Str.ofString "^") = false) (haj : At tx j (32 :: l')) (hj : 2 < j) (hL : ∀ tl r,NodeIn tl T r → LevC w (ex ++ tl) r f n) (hf : f 0 ≤ 20) (hdv : handedIn dv = true) :
    Sat w 899 (n + 20) [.str tx u,.int 2 u2,dv] ex (RO ex (fun tl r=>PatIn tl T j r)):=by
  refine' sat_of (binds:=[(Str.ofString "text",.str tx u),(Str.ofString "at",.int 2 u2),(Str.ofString "definitions",dv)]) ?ho ?hcd ?hn ?hbind ?hloc ?h ?hcell ?hco ?hgen ?hk
  (case ho=>k_is);(case hcd=>k_is);(case hn=>first | decide | lia);(case hbind=>intro s X;first | exact BindsTo.of_eq rfl | exact binds_K X rfl (by k_is) rfl rfl rfl);(case hloc=>exact locs rfl)
  (case hcell=>decide);(case hco=>rfl);(case hgen=>rfl);(case hk=>rfl)
  intros
  repeat' (first|(k_unfold;(try dsimp only))|((with_reducible show wpAny _ _ (call _ _) _ _ _);first|(k_here;(with_reducible show wpAny _ _ (call (Value.ref 148) _) _ _ _);k_dflt (refine' no_implicit_lambda% (use_bool (skip_not _ _ _ _ _ _ _ _ _ ?hl ?ha _ _ ?hy ?hn) ?hs ?B ?F ?X ?N ?T ?kk ?dd ?uu ?_);tb_rel;(case hs=>first | assumption|(repeat' (first | exact trivial | k_mem | refine no_implicit_lambda% (And.intro ?_ ?_))));(case hl | ha=>assumption);(case hy | hn=>first | assumption | rfl));intro qh' qtk' qF' qN';(try k_sweep))|(k_here;(with_reducible show wpAny _ _ (call (Value.ref 879) _) _ _ _);k_dflt (refine' no_implicit_lambda% (reader_call ?hdv ?B ?F ?X ?N ?T ?kk ?dd ?uu ?_);tb_rel;(case hdv=>assumption));intro qr' qdr' qc' qdc' qh1' qh2' qh3' qh4' qhT' qhA' qu1' qu2' qu3' qu4' qt5' qk1' qk2' qk3' qt4' qh' qtk' qF' qN' ql1' ql2' ql3' ql4';(try k_sweep))|(k_here;(with_reducible show wpAny _ _ (call (Value.ref 682) [_]) _ _ _);k_dflt (refine' no_implicit_lambda% (use_rocI (LevC.use0 ?S) ?hs ?B ?F ?X ?N ?T ?kk ?dd ?uu ?_);(case S=>assumption);tb_rel;(case hs=>lcg_sub));intro qt9' qh' qtk' qF' qN';(try k_sweep))|(k_here;(with_reducible show wpAny _ _ (call (Value.ref 794) _) _ _ _);k_dflt (refine' no_implicit_lambda% (use_top (‹TopReads _ _ _ _ _ _ _ _ _›) ?hs ?n1 ?n2 ?n3 ?n4 ?n5 ?n6 ?x1 ?x2 ?x3 ?x4 ?U1 ?U2 ?B ?F ?X ?N ?T ?kk ?dd ?uu ?_);tb_rel;(case hs=>lcg_sub);(case n1=>k_ne);(case n2=>k_ne);(case n3=>k_ne);(case n4=>k_ne);(case n5=>k_ne);(case n6=>k_ne);(case x1=>k_all);(case x2=>k_all);(case x3=>k_all);(case x4=>k_all);(case U1=>k_updF);(case U2=>(intro qo';first|(refine' no_implicit_lambda% (UpdF.tail ?a7 ?b7);(case a7=>k_ne);(case b7=>(refine' no_implicit_lambda% (UpdF.head ?a8);(case a8=>(refine no_implicit_lambda% (off_cons9 ?aa ?bb);(case aa=>((try dsimp only);k_ne));(case bb=>(refine no_implicit_lambda% (off_cons9 ?aa ?bb);(case aa=>((try dsimp only);k_ne));(case bb=>k_all))))))))|k_updF)));intro qr' qtl' qt5' qt4' qh' qtk' qF' qN' qhV' qhO';(try have hLv':=(‹∀ tl r,NodeIn tl _ r → LevC _ _ r _ _›) _ _ qhV');(try simp only [List.cons_append,List.nil_append,List.append_assoc] at qN');(try k_sweep))|(k_here;(with_reducible show wpAny _ _ (call (Value.ref 734) _) _ _ _);k_dflt (refine' no_implicit_lambda% (new_pat ?B ?F ?X ?N ?T ?kk ?dd ?uu ?_);tb_rel);intro qx' qd' qhh0 qhh1 qhh2 quu0 quu1 quu2 qh' qtk' qF' qN' ql1 ql2;(try k_sweep))|(k_here;(with_reducible show wpAny _ _ (call (Value.ref 127) _) _ _ _);k_dflt (refine' no_implicit_lambda% (use_str (peek_at _ _ _ _ _ _ _ _ _ ?hl ?ha) ?hs rfl ?B ?F ?X ?N ?T ?kk ?dd ?uu ?_);(case hl | ha=>assumption);tb_rel;(case hs=>first | assumption|(repeat' (first | exact trivial | k_mem | refine no_implicit_lambda% (And.intro ?_ ?_)))));intro qt qh' qtk' qF' qN';(try k_sweep)))|((with_reducible show wpAny _ _ (compareOp _ _ _) _ _ _);first|(k_here;(with_reducible show wpAny _ _ (compareOp CmpOp.Eq (Value.str _ _) (Value.str _ _)) _ _ _);first | refine no_implicit_lambda% (eq_str_t ‹(_ == _) = _› ?_)|refine no_implicit_lambda% (eq_str_t (b:=true) (by decide +kernel) ?_)|refine no_implicit_lambda% (eq_str_t (b:=false) (by decide +kernel) ?_))|(k_here;(with_reducible show wpAny _ _ (compareOp CmpOp.Eq (Value.int _ _) (Value.int _ _)) _ _ _);refine no_implicit_lambda% (eq_int_f (by lia) ?_))|(k_here;(with_reducible show wpAny _ _ (compareOp CmpOp.In (Value.str _ _) (Value.str _ _)) _ _ _);first | refine no_implicit_lambda% (in_b ‹(Builtin.Str.occurrences _ _ _ _ _).isEmpty = _› ?_)|refine no_implicit_lambda% (in_b (b:=true) (by decide +kernel) ?_)|refine no_implicit_lambda% (in_b (b:=false) (by decide +kernel) ?_)|refine no_implicit_lambda% (in_b rfl ?_)))|((with_reducible show wpAny _ _ (eval _ _) _ _ _);first|(k_here;(with_reducible show wpAny _ _ (eval (PySem.Expr.Call (PySem.Expr.Attribute (PySem.Expr.Name _ _) _ _) [PySem.Expr.Constant (Const.str _) _ _] [] _) _) _ _ _);k_dflt (refine' no_implicit_lambda% (call_nm1 ?M ?F ?X ?N ?hm ?m1 ?m2 ?hl ?_);(case F=>k_asm);(case X=>k_in);(case N=>k_asm);(case hm=>exact rfl);(case m1 | m2=>k_mem);(case hl=>exact rfl);(case M=>first | exact mw8 _ | exact mw9 _ | exact mw10 _ | exact mw11 _ | exact mw12 _ | exact mw1 _ | exact mw2 _ | exact mw4 _ | exact mw5 _)))|(k_here;(with_reducible show wpAny _ _ (eval (PySem.Expr.Call (PySem.Expr.Attribute (PySem.Expr.Name _ _) _ _) [] [] _) _) _ _ _);k_dflt (refine' no_implicit_lambda% (call_nm0 ?M ?F ?X ?N ?hm ?m1 ?m2 ?hl ?_);(case F=>k_asm);(case X=>k_in);(case N=>k_asm);(case hm=>exact rfl);(case m1 | m2=>k_mem);(case hl=>exact rfl);(case M=>first | exact mw8 _ | exact mw9 _ | exact mw10 _ | exact mw11 _ | exact mw12 _ | exact mw1 _ | exact mw2 _ | exact mw4 _ | exact mw5 _)))|(k_here;(with_reducible show wpAny _ _ (eval (PySem.Expr.Call (PySem.Expr.Attribute (PySem.Expr.Attribute (PySem.Expr.Name _ _) _ _) _ _) [] [] _) _) _ _ _);k_dflt (refine' no_implicit_lambda% (call_at0 ?O ?M ?F ?X ?N ?hm ?m1 ?m2 ?hl ?m3 ?m4 ?hl2 ?_);(case F=>k_asm);(case X=>k_in);(case N=>k_asm);(case hm=>exact rfl);(case m1 | m2=>k_mem);(case hl=>exact rfl);(case m3 | m4=>k_mem);(case hl2=>exact rfl);(case O=>exact ow1 _);(case M=>first | exact mw5 _ | exact mw2 _ | exact mw4 _ | exact mw1 _ | exact mw6 _ | exact mw12 _)))|(k_here;(with_reducible show wpAny _ _ (eval (PySem.Expr.Attribute (PySem.Expr.Name _ _) _ _) _) _ _ _);k_dflt (refine' no_implicit_lambda% (at_own ?O ?F ?X ?N ?hm ?m1 ?m2 ?hl ?hv ?_);(case F=>k_asm);(case X=>k_in);(case N=>k_asm);(case hm=>exact rfl);(case m1 | m2=>k_mem);(case hl=>exact rfl);(case hv=>k_handed);(case O=>first | exact ow1 _ | exact ow5 _ | exact ow6 _ | exact ow2 _ | exact ow3 _ | exact ow4 _ | exact ⟨by k_is,by k_is,_,by k_is,by k_is⟩))))|walk1|(refine StD.nx (by with_reducible assumption) _ ?_)|(refine StD.rt (by with_reducible assumption) _ _ ?_)|(refine Ups.up (by with_reducible assumption) _ _ ?_;(try dsimp only))|(k_end;wrow_close)|dsimp only|(leave1;try dsimp only))
  rename News _ _ _ _=>N9
  rename AllOff _ _=>O9
  refine fin_pat (by assumption) N9 ?s1 (by assumption) (by assumption) (by assumption) (allOff_sub O9 ?s2) ⟨_,_,_,_,_,_,_,_,_,_,_,rfl,.head _,.tail _ (.head _),.tail _ (.tail _ (.head _)),NodeIn.up (fun q hq=>.tail _ (.tail _ (.tail _ hq))) (‹NodeIn _ T _›)⟩
  case s1=>lcg_sub
  case s2=>lcg_sub
end
set_option maxHeartbeats 2000000
structure TopReads2 (w : World) (ex : Led) (dv : Value) (isP : Bool) (tx : Str) (T : Tr) (n : Nat) (i j : Int) : Prop where
  of : TopReads w ex dv isP tx T n i j
section
variable (w : World) {ex : Led} {dv : Value} {tx : Str} {T : Tr} {n n1 : Nat} {f f1 : Int → Int} {u u2 : Tok} {j : Int} {l l' : List Nat}
def PatT (tl : Led) (T1 T2 : Tr) (j : Int) (v : Value) : Prop:=∃ tp pa pd t h1 t1 h2 t2 h3 t3 b c,v = .ref tp ∧ (tp,tup #[.ref pa,.int j t]) ∈ tl ∧ (pa,instObj 734 pd) ∈ tl ∧ (pd,dictOf [⟨h1,.str (Str.ofString "body") t1,b⟩,⟨h2,.str (Str.ofString "begins") t2,.bool false⟩,⟨h3,.str (Str.ofString "trail") t3,c⟩] 3) ∈ tl ∧ NodeIn tl T1 b ∧ NodeIn tl T2 c
theorem fin_trail {tl1 tl2 rest : Led} {T1 T2 : Tr} {b c : Value} {D x d : Addr} {t : Tok} {h1 h2 h3 : Int} {t1 t2 t3 : Tok} {g h' : Heap} {s : Shared} {L' : Addr} {m' : Str → Option Value} {tk' : Nat} (n1 : NodeIn tl1 T1 b) (n2 : NodeIn tl2 T2 c) (F : Fr g L' h' m')
    (N : News g L' h' ((D,tup #[.ref x,.int j t]) :: (x,instObj 734 d) :: (d,dictOf [⟨h1,.str (Str.ofString "body") t1,b⟩,⟨h2,.str (Str.ofString "begins") t2,.bool false⟩,⟨h3,.str (Str.ofString "trail") t3,c⟩] 3) :: rest)) (s0 : ∀ q ∈ ex,q ∈ rest) (s1 : ∀ q ∈ tl1,q ∈ rest) (s2 : ∀ q ∈ tl2,q ∈ rest)
    (lD : AllLt D ((x,instObj 734 d) :: (d,dictOf [⟨h1,.str (Str.ofString "body") t1,b⟩,⟨h2,.str (Str.ofString "begins") t2,.bool false⟩,⟨h3,.str (Str.ofString "trail") t3,c⟩] 3) :: rest)) (lx : @LT.lt Nat _ d x) (ld : AllLt d rest) (O1 : AllOff ex tl1) (O2 : AllOff ex tl2) :
    Done g s (RO ex (fun tl r=>PatT tl T1 T2 j r)) (.ref D) { s with heap:=h',toks:=tk' } :=
  fin_pat (tl:=tl1 ++ tl2) F N (sub_app s0 (sub_app s1 s2)) lD lx ld (O1.app O2) ⟨_,_,_,_,_,_,_,_,_,_,_,_,rfl,.head _,.tail _ (.head _),.tail _ (.tail _ (.head _)),n1.up fun q hq=>.tail _ (.tail _ (.tail _ (List.mem_append_left _ hq))),n2.up fun q hq=>.tail _ (.tail _ (.tail _ (List.mem_append_right _ hq)))⟩
theorem trail_ok {yh : String × Bool} (hyh : hdT T = some yh) (hR1 : TopReads w ex dv true tx (.chars 120) n 2 3) (hR : TopReads2 w ex dv true tx T n (3 + 1) j) (hl : tx.length ≤ 1000) (ha : At tx 2 (120 :: 47 :: l)) (ha3 : At tx 3 (47 :: l)) (haj : At tx j (32 :: l')) (hj : 4 < j)
    (hL1 : ∀ tl r,NodeIn tl (.chars 120) r → LevC w (ex ++ tl) r f1 n) (hf1 : f1 0 ≤ 20) (hL : ∀ tl r,NodeIn tl T r → LevC w (ex ++ tl) r f n) (hf : f 0 ≤ 20) (hdv : handedIn dv = true) :
    Sat w 899 (n + 20) [.str tx u,.int 2 u2,dv] ex (RO ex (fun tl r=>PatT tl (.chars 120) T j r)):=by
  have hx : (hdS (120 :: 47 :: l) == Str.ofString "^") = false:=by show (Str.mk #[120] == Str.ofString "^") = false;decide +kernel
  refine' sat_of (binds:=[(Str.ofString "text",.str tx u),(Str.ofString "at",.int 2 u2),(Str.ofString "definitions",dv)]) ?ho ?hcd ?hn ?hbind ?hloc ?h ?hcell ?hco ?hgen ?hk
  (case ho=>k_is);(case hcd=>k_is);(case hn=>first | decide | lia);(case hbind=>intro s X;first | exact BindsTo.of_eq rfl | exact binds_K X rfl (by k_is) rfl rfl rfl);(case hloc=>exact locs rfl)
  (case hcell=>decide);(case hco=>rfl);(case hgen=>rfl);(case hk=>rfl)
  intros
  repeat' (first|(k_unfold;(try dsimp only))|((with_reducible show wpAny _ _ (call _ _) _ _ _);first|(k_here;(with_reducible show wpAny _ _ (call (Value.ref 148) _) _ _ _);k_dflt (refine' no_implicit_lambda% (use_cur_bool (skip_yes _ _ _ _ _ _ _ _ _ ?hl ?ha _ _ ?hy ?hne) ?hs ?U ?hne ?B ?F ?X ?N ?T ?kk ?dd ?uu ?_);tb_rel;(case hs=>first | assumption|(repeat' (first | exact trivial | k_mem | refine no_implicit_lambda% (And.intro ?_ ?_))));(case hl | ha=>assumption);(case hy=>first | assumption | rfl);(case U=>first|(refine' no_implicit_lambda% (UpdF.tail ?a7 ?b7);(case a7=>k_ne);(case b7=>(refine' no_implicit_lambda% (UpdF.head ?a8);(case a8=>(refine no_implicit_lambda% (off_cons9 ?aa ?bb);(case aa=>((try dsimp only);k_ne));(case bb=>(refine no_implicit_lambda% (off_cons9 ?aa ?bb);(case aa=>((try dsimp only);k_ne));(case bb=>k_all))))))))|k_updF);(case hne=>first | assumption | lia | k_ne));intro qt qh' qtk' qF' qN';(try k_sweep))|(k_here;(with_reducible show wpAny _ _ (call (Value.ref 794) _) _ _ _);k_dflt (refine' no_implicit_lambda% (use_top (TopReads2.of (‹TopReads2 _ _ _ _ _ _ _ _ _›)) ?hs ?n1 ?n2 ?n3 ?n4 ?n5 ?n6 ?x1 ?x2 ?x3 ?x4 ?U1 ?U2 ?B ?F ?X ?N ?T ?kk ?dd ?uu ?_);tb_rel;(case hs=>lcg_sub);(case n1=>k_ne);(case n2=>k_ne);(case n3=>k_ne);(case n4=>k_ne);(case n5=>k_ne);(case n6=>k_ne);(case x1=>k_all);(case x2=>k_all);(case x3=>k_all);(case x4=>k_all);(case U1=>k_updF);(case U2=>(intro qo';first|(refine' no_implicit_lambda% (UpdF.tail ?a7 ?b7);(case a7=>k_ne);(case b7=>(refine' no_implicit_lambda% (UpdF.head ?a8);(case a8=>(refine no_implicit_lambda% (off_cons9 ?aa ?bb);(case aa=>((try dsimp only);k_ne));(case bb=>(refine no_implicit_lambda% (off_cons9 ?aa ?bb);(case aa=>((try dsimp only);k_ne));(case bb=>k_all))))))))|k_updF)));intro qr' qtl' qt5' qt4' qh' qtk' qF' qN' qhV' qhO';(refine no_implicit_lambda% (gen fun qG qhG=>?_));k_dflt (obtain ⟨qb9',qe9'⟩:=ref_of (‹hdT _ = some _›) qhV');subst qe9';(refine no_implicit_lambda% (qhG ?_));(clear qhG);(try have hLv':=(‹∀ tl r,NodeIn tl _ r → LevC _ _ r _ _›) _ _ qhV');(try simp only [List.cons_append,List.nil_append,List.append_assoc] at qN');(try k_sweep))|(k_here;(with_reducible show wpAny _ _ (call (Value.ref 148) _) _ _ _);k_dflt (refine' no_implicit_lambda% (use_bool (skip_not _ _ _ _ _ _ _ _ _ ?hl ?ha _ _ ?hy ?hn) ?hs ?B ?F ?X ?N ?T ?kk ?dd ?uu ?_);tb_rel;(case hs=>first | assumption|(repeat' (first | exact trivial | k_mem | refine no_implicit_lambda% (And.intro ?_ ?_))));(case hl | ha=>assumption);(case hy | hn=>first | assumption | rfl));intro qh' qtk' qF' qN';(try k_sweep))|(k_here;(with_reducible show wpAny _ _ (call (Value.ref 879) _) _ _ _);k_dflt (refine' no_implicit_lambda% (reader_call ?hdv ?B ?F ?X ?N ?T ?kk ?dd ?uu ?_);tb_rel;(case hdv=>assumption));intro qr' qdr' qc' qdc' qh1' qh2' qh3' qh4' qhT' qhA' qu1' qu2' qu3' qu4' qt5' qk1' qk2' qk3' qt4' qh' qtk' qF' qN' ql1' ql2' ql3' ql4';(try k_sweep))|(k_here;(with_reducible show wpAny _ _ (call (Value.ref 682) [_]) _ _ _);k_dflt (refine' no_implicit_lambda% (use_rocI (LevC.use0 ?S) ?hs ?B ?F ?X ?N ?T ?kk ?dd ?uu ?_);(case S=>assumption);tb_rel;(case hs=>lcg_sub));intro qt9' qh' qtk' qF' qN';(try k_sweep))|(k_here;(with_reducible show wpAny _ _ (call (Value.ref 794) _) _ _ _);k_dflt (refine' no_implicit_lambda% (use_top (‹TopReads _ _ _ _ _ _ _ _ _›) ?hs ?n1 ?n2 ?n3 ?n4 ?n5 ?n6 ?x1 ?x2 ?x3 ?x4 ?U1 ?U2 ?B ?F ?X ?N ?T ?kk ?dd ?uu ?_);tb_rel;(case hs=>lcg_sub);(case n1=>k_ne);(case n2=>k_ne);(case n3=>k_ne);(case n4=>k_ne);(case n5=>k_ne);(case n6=>k_ne);(case x1=>k_all);(case x2=>k_all);(case x3=>k_all);(case x4=>k_all);(case U1=>k_updF);(case U2=>(intro qo';first|(refine' no_implicit_lambda% (UpdF.tail ?a7 ?b7);(case a7=>k_ne);(case b7=>(refine' no_implicit_lambda% (UpdF.head ?a8);(case a8=>(refine no_implicit_lambda% (off_cons9 ?aa ?bb);(case aa=>((try dsimp only);k_ne));(case bb=>(refine no_implicit_lambda% (off_cons9 ?aa ?bb);(case aa=>((try dsimp only);k_ne));(case bb=>k_all))))))))|k_updF)));intro qr' qtl' qt5' qt4' qh' qtk' qF' qN' qhV' qhO';(try have hLv':=(‹∀ tl r,NodeIn tl _ r → LevC _ _ r _ _›) _ _ qhV');(try simp only [List.cons_append,List.nil_append,List.append_assoc] at qN');(try k_sweep))|(k_here;(with_reducible show wpAny _ _ (call (Value.ref 734) _) _ _ _);k_dflt (refine' no_implicit_lambda% (new_pat ?B ?F ?X ?N ?T ?kk ?dd ?uu ?_);tb_rel);intro qx' qd' qhh0 qhh1 qhh2 quu0 quu1 quu2 qh' qtk' qF' qN' ql1 ql2;(try k_sweep))|(k_here;(with_reducible show wpAny _ _ (call (Value.ref 127) _) _ _ _);k_dflt (refine' no_implicit_lambda% (use_str (peek_at _ _ _ _ _ _ _ _ _ ?hl ?ha) ?hs rfl ?B ?F ?X ?N ?T ?kk ?dd ?uu ?_);(case hl | ha=>assumption);tb_rel;(case hs=>first | assumption|(repeat' (first | exact trivial | k_mem | refine no_implicit_lambda% (And.intro ?_ ?_)))));intro qt qh' qtk' qF' qN';(try k_sweep)))|((with_reducible show wpAny _ _ (compareOp _ _ _) _ _ _);first|(k_here;(with_reducible show wpAny _ _ (compareOp CmpOp.Eq (Value.str _ _) (Value.str _ _)) _ _ _);first | refine no_implicit_lambda% (eq_str_t ‹(_ == _) = _› ?_)|refine no_implicit_lambda% (eq_str_t (b:=true) (by decide +kernel) ?_)|refine no_implicit_lambda% (eq_str_t (b:=false) (by decide +kernel) ?_))|(k_here;(with_reducible show wpAny _ _ (compareOp CmpOp.Eq (Value.int _ _) (Value.int _ _)) _ _ _);refine no_implicit_lambda% (eq_int_f (by lia) ?_))|(k_here;(with_reducible show wpAny _ _ (compareOp CmpOp.In (Value.str _ _) (Value.str _ _)) _ _ _);first | refine no_implicit_lambda% (in_b ‹(Builtin.Str.occurrences _ _ _ _ _).isEmpty = _› ?_)|refine no_implicit_lambda% (in_b (b:=true) (by decide +kernel) ?_)|refine no_implicit_lambda% (in_b (b:=false) (by decide +kernel) ?_)|refine no_implicit_lambda% (in_b rfl ?_)))|((with_reducible show wpAny _ _ (eval _ _) _ _ _);first|(k_here;(with_reducible show wpAny _ _ (eval (PySem.Expr.Call (PySem.Expr.Attribute (PySem.Expr.Name _ _) _ _) [PySem.Expr.Constant (Const.str _) _ _] [] _) _) _ _ _);k_dflt (refine' no_implicit_lambda% (call_nm1 ?M ?F ?X ?N ?hm ?m1 ?m2 ?hl ?_);(case F=>k_asm);(case X=>k_in);(case N=>k_asm);(case hm=>exact rfl);(case m1 | m2=>k_mem);(case hl=>exact rfl);(case M=>first | exact mw8 _ | exact mw9 _ | exact mw10 _ | exact mw11 _ | exact mw12 _ | exact mw1 _ | exact mw2 _ | exact mw4 _ | exact mw5 _)))|(k_here;(with_reducible show wpAny _ _ (eval (PySem.Expr.Call (PySem.Expr.Attribute (PySem.Expr.Name _ _) _ _) [] [] _) _) _ _ _);k_dflt (refine' no_implicit_lambda% (call_nm0 ?M ?F ?X ?N ?hm ?m1 ?m2 ?hl ?_);(case F=>k_asm);(case X=>k_in);(case N=>k_asm);(case hm=>exact rfl);(case m1 | m2=>k_mem);(case hl=>exact rfl);(case M=>first | exact mw8 _ | exact mw9 _ | exact mw10 _ | exact mw11 _ | exact mw12 _ | exact mw1 _ | exact mw2 _ | exact mw4 _ | exact mw5 _)))|(k_here;(with_reducible show wpAny _ _ (eval (PySem.Expr.Call (PySem.Expr.Attribute (PySem.Expr.Attribute (PySem.Expr.Name _ _) _ _) _ _) [] [] _) _) _ _ _);k_dflt (refine' no_implicit_lambda% (call_at0 ?O ?M ?F ?X ?N ?hm ?m1 ?m2 ?hl ?m3 ?m4 ?hl2 ?_);(case F=>k_asm);(case X=>k_in);(case N=>k_asm);(case hm=>exact rfl);(case m1 | m2=>k_mem);(case hl=>exact rfl);(case m3 | m4=>k_mem);(case hl2=>exact rfl);(case O=>exact ow1 _);(case M=>first | exact mw5 _ | exact mw2 _ | exact mw4 _ | exact mw1 _ | exact mw6 _ | exact mw12 _)))|(k_here;(with_reducible show wpAny _ _ (eval (PySem.Expr.Attribute (PySem.Expr.Name _ _) _ _) _) _ _ _);k_dflt (refine' no_implicit_lambda% (at_own ?O ?F ?X ?N ?hm ?m1 ?m2 ?hl ?hv ?_);(case F=>k_asm);(case X=>k_in);(case N=>k_asm);(case hm=>exact rfl);(case m1 | m2=>k_mem);(case hl=>exact rfl);(case hv=>k_handed);(case O=>first | exact ow1 _ | exact ow5 _ | exact ow6 _ | exact ow2 _ | exact ow3 _ | exact ow4 _ | exact ⟨by k_is,by k_is,_,by k_is,by k_is⟩))))|walk1|(refine StD.nx (by with_reducible assumption) _ ?_)|(refine StD.rt (by with_reducible assumption) _ _ ?_)|(refine Ups.up (by with_reducible assumption) _ _ ?_;(try dsimp only))|(k_end;wrow_close)|dsimp only|(leave1;try dsimp only))
  rename News _ _ _ _=>N9
  rename NodeIn _ (Tr.chars 120) _=>hn1
  rename NodeIn _ T _=>hn2
  refine fin_trail hn1 hn2 (by assumption) N9 ?s0 ?s1 ?s2 (by assumption) (by assumption) (by assumption) (allOff_sub (by assumption) ?s3) (allOff_sub (by assumption) ?s4)
  case s0=>lcg_sub
  case s1=>lcg_sub
  case s2=>lcg_sub
  case s3=>lcg_sub
  case s4=>lcg_sub
end
set_option maxHeartbeats 2000000
theorem failed0x (w : World) (r dr c dc : Addr) (h1 h2 h3 h4 : Int) (u1 u2 u3 u4 : Tok) (dv : Value) (isP : Bool) (k : Int) (t5 : Tok) (hT hA : Int) (k1 k2 k3 t4 : Tok) {tx : Str} (i : Int) (hl : tx.length ≤ 1000) (what : Str) (u u9 : Tok) :
    Sat w 773 12 [.ref r,.str what u,.int 0 u9] [(r,instObj 879 dr),(dr,rdO c h1 h2 h3 h4 u1 u2 u3 u4 dv isP k t5),(c,instObj 222 dc),(dc,curD hT hA k1 k2 k3 t4 tx i)] (RO [(r,instObj 879 dr),(dr,rdO c h1 h2 h3 h4 u1 u2 u3 u4 dv isP k t5),(c,instObj 222 dc),(dc,curD hT hA k1 k2 k3 t4 tx i)] (Fails 0)) :=
  failed0 w ⟨r,dr,c,dc,h1,h2,h3,h4,u1,u2,u3,u4,dv,isP,hT,hA,k1,k2,k3,tx⟩ k t5 i t4 hl what u u9
theorem failed2x (w : World) (r dr c dc : Addr) (h1 h2 h3 h4 : Int) (u1 u2 u3 u4 : Tok) (dv : Value) (isP : Bool) (k : Int) (t5 : Tok) (hT hA : Int) (k1 k2 k3 t4 : Tok) {tx : Str} (i : Int) (hl : tx.length ≤ 1000) {l : List Nat} (ha : At tx 0 (113 :: 32 :: l)) (what : Str) (u u9 : Tok) :
    Sat w 773 12 [.ref r,.str what u,.int 2 u9] [(r,instObj 879 dr),(dr,rdO c h1 h2 h3 h4 u1 u2 u3 u4 dv isP k t5),(c,instObj 222 dc),(dc,curD hT hA k1 k2 k3 t4 tx i)] (RO [(r,instObj 879 dr),(dr,rdO c h1 h2 h3 h4 u1 u2 u3 u4 dv isP k t5),(c,instObj 222 dc),(dc,curD hT hA k1 k2 k3 t4 tx i)] (Fails 2)) :=
  failed2 w ⟨r,dr,c,dc,h1,h2,h3,h4,u1,u2,u3,u4,dv,isP,hT,hA,k1,k2,k3,tx⟩ k t5 i t4 hl what u u9 ha
def RaiseQ (w : World) (E : Value → Shared → Prop) (v : Value) (s₁ : Shared) : Prop:=∃ e d t,v = .ref e ∧ (KF w.params).In s₁.heap ∧ s₁.heap.get? e = some (excO 95 d t) ∧ E (.ref e) s₁
theorem raise_instQ {prog : Program} {w : World} {A : Around} {E : Value → Shared → Prop} {s : Shared} {env : Env} {ex : PySem.Expr} {pos : Pos} {Q : Flow → Shared → Prop} (hh : A.handled = none)
    (h : wpAny (model prog w) A (eval ex env) (RaiseQ w E) E s) : wpAny (model prog w) A (exec (.Raise (some ex) none pos) env) Q E s:=raise_inst hh h
theorem fin_raise {w : World} {own news : Led} {Post : Addr → Addr → Led → Prop} {g h' : Heap} {s : Shared} {L' : Addr} {m' : Str → Option Value} {tk' : Nat} {e d t : Addr} (X : (KF w.params).In g) (F : Fr g L' h' m') (N : News g L' h' news) (he : (e,excO 95 (some d) t) ∈ news) (tl : Led)
    (hs : ∀ q ∈ own ++ tl,q ∈ news) (off : ∀ q ∈ own ++ tl,q.1 ≠ e) (aO : AllOff own tl) (hP : Post e d tl) : RaiseQ w (fun v s'=>DoneE g L' s own Post v s') (.ref e) { s with heap:=h',toks:=tk' } :=
  ⟨e,some d,t,rfl,X.keeps F.keep,(N _ he).1,e,d,t,m',tl,h',tk',rfl,rfl,F,(fun q hq=>(List.mem_cons.mp hq).elim (fun z=>z ▸ N _ he) fun hq=>N q (hs q hq)),off,aO,hP⟩
theorem fails_off {n ex rest : Led} {e : Addr} {o : Obj} (O : AllOff n ((e,o) :: rest)) (hs : ∀ q ∈ ex,q ∈ n) (r : Off rest e) : (∀ q ∈ ex ++ rest,q.1 ≠ e) ∧ AllOff ex rest :=
  ⟨off_app (fun q hq=>Ne.symm (O.mem q (hs q hq) _ (.head _))) r,allOff_of fun p hp q hq=>O.mem p (hs p hp) q (.tail _ hq)⟩
section
variable (w : World) {ex : Led} {dv : Value} {tx : Str} {T : Tr} {n : Nat} {f : Int → Int} {u : Tok}
theorem read_no (hR : TopReads w ex dv false tx T n 0 tx.length) (hl : tx.length ≤ 1000) (ha : At tx tx.length []) (hL : ∀ tl r,NodeIn tl T r → LevC w (ex ++ tl) r f n) (hf : 20 < f 0) (hdv : handedIn dv = true) :
    SatE w 891 (n + 20) [.str tx u,dv] ex (fun e d own'=>ExcIn own' d 0):=by
  refine' satE_of (binds:=[(Str.ofString "text",.str tx u),(Str.ofString "definitions",dv)]) ?ho ?hcd ?hn ?hbind ?hloc ?h ?hcell ?hco ?hgen ?hk
  (case ho=>k_is);(case hcd=>k_is);(case hn=>first | decide | lia);(case hbind=>intro s X;first | exact BindsTo.of_eq rfl | exact binds_K X rfl (by k_is) rfl rfl rfl);(case hloc=>exact locs rfl)
  (case hcell=>decide);(case hco=>rfl);(case hgen=>rfl);(case hk=>rfl)
  intros
  repeat' (first|(k_unfold;(try dsimp only))|((with_reducible show wpAny _ _ (call _ _) _ _ _);first|(k_here;(with_reducible show wpAny _ _ (call (Value.ref 773) [_,_,Value.int 0 _]) _ _ _);k_dflt (refine' no_implicit_lambda% (use_ron (failed0x _ _ _ _ _ _ _ _ _ _ _ _ _ _ _ _ _ _ _ _ _ _ _ _ ?hl _ _ _) ?hs ?B ?F ?X ?N ?T ?kk ?dd ?uu ?_);tb_rel;(case hs=>lcg_sub);(case hl=>assumption));intro qr' qtl' qh' qtk' qF' qN' qhV' qhO';(refine no_implicit_lambda% (gen fun qG qhG=>?_));k_dflt (obtain ⟨qe',qd',qt',qrest',qe9',qe8',qoff',qhE'⟩:=qhV');subst qe9' qe8';(refine no_implicit_lambda% (qhG ?_));(clear qhG);(try simp only [List.cons_append,List.nil_append,List.append_assoc] at qN');(try k_sweep))|(k_here;(with_reducible show wpAny _ _ (call (Value.ref 879) _) _ _ _);k_dflt (refine' no_implicit_lambda% (reader_call ?hdv ?B ?F ?X ?N ?T ?kk ?dd ?uu ?_);tb_rel;(case hdv=>assumption));intro qr' qdr' qc' qdc' qh1' qh2' qh3' qh4' qhT' qhA' qu1' qu2' qu3' qu4' qt5' qk1' qk2' qk3' qt4' qh' qtk' qF' qN' ql1' ql2' ql3' ql4';(try k_sweep))|(k_here;(with_reducible show wpAny _ _ (call (Value.ref 682) [_]) _ _ _);k_dflt (refine' no_implicit_lambda% (use_rocI (LevC.use0 ?S) ?hs ?B ?F ?X ?N ?T ?kk ?dd ?uu ?_);(case S=>assumption);tb_rel;(case hs=>lcg_sub));intro qt9' qh' qtk' qF' qN';(try k_sweep))|(k_here;(with_reducible show wpAny _ _ (call (Value.ref 794) _) _ _ _);k_dflt (refine' no_implicit_lambda% (use_top (‹TopReads _ _ _ _ _ _ _ _ _›) ?hs ?n1 ?n2 ?n3 ?n4 ?n5 ?n6 ?x1 ?x2 ?x3 ?x4 ?U1 ?U2 ?B ?F ?X ?N ?T ?kk ?dd ?uu ?_);tb_rel;(case hs=>lcg_sub);(case n1=>k_ne);(case n2=>k_ne);(case n3=>k_ne);(case n4=>k_ne);(case n5=>k_ne);(case n6=>k_ne);(case x1=>k_all);(case x2=>k_all);(case x3=>k_all);(case x4=>k_all);(case U1=>k_updF);(case U2=>(intro qo';first|(refine' no_implicit_lambda% (UpdF.tail ?a7 ?b7);(case a7=>k_ne);(case b7=>(refine' no_implicit_lambda% (UpdF.head ?a8);(case a8=>(refine no_implicit_lambda% (off_cons9 ?aa ?bb);(case aa=>((try dsimp only);k_ne));(case bb=>(refine no_implicit_lambda% (off_cons9 ?aa ?bb);(case aa=>((try dsimp only);k_ne));(case bb=>k_all))))))))|k_updF)));intro qr' qtl' qt5' qt4' qh' qtk' qF' qN' qhV' qhO';(try have hLv':=(‹∀ tl r,NodeIn tl _ r → LevC _ _ r _ _›) _ _ qhV');(try simp only [List.cons_append,List.nil_append,List.append_assoc] at qN');(try k_sweep)))|(k_here;(with_reducible show wpAny _ _ (exec (Stmt.Raise (some _) none _) _) _ _ _);k_dflt (refine' no_implicit_lambda% (raise_instQ ?hh ?_);(case hh=>exact rfl)))|((with_reducible show wpAny _ _ (eval _ _) _ _ _);first|(k_here;(with_reducible show wpAny _ _ (eval (PySem.Expr.Call (PySem.Expr.Attribute (PySem.Expr.Name _ _) _ _) [] [] _) _) _ _ _);k_dflt (refine' no_implicit_lambda% (call_nm0 ?M ?F ?X ?N ?hm ?m1 ?m2 ?hl ?_);(case F=>k_asm);(case X=>k_in);(case N=>k_asm);(case hm=>exact rfl);(case m1 | m2=>k_mem);(case hl=>exact rfl);(case M=>first | exact mw8 _ | exact mw9 _ | exact mw10 _ | exact mw11 _ | exact mw12 _ | exact mw1 _ | exact mw2 _ | exact mw4 _ | exact mw5 _)))|(k_here;(with_reducible show wpAny _ _ (eval (PySem.Expr.Call (PySem.Expr.Attribute (PySem.Expr.Attribute (PySem.Expr.Name _ _) _ _) _ _) [] [] _) _) _ _ _);k_dflt (refine' no_implicit_lambda% (call_at0 ?O ?M ?F ?X ?N ?hm ?m1 ?m2 ?hl ?m3 ?m4 ?hl2 ?_);(case F=>k_asm);(case X=>k_in);(case N=>k_asm);(case hm=>exact rfl);(case m1 | m2=>k_mem);(case hl=>exact rfl);(case m3 | m4=>k_mem);(case hl2=>exact rfl);(case O=>exact ow1 _);(case M=>first | exact mw5 _ | exact mw2 _ | exact mw4 _ | exact mw1 _ | exact mw6 _ | exact mw12 _)))|(k_here;(with_reducible show wpAny _ _ (eval (PySem.Expr.Attribute (PySem.Expr.Name _ _) _ _) _) _ _ _);k_dflt (refine' no_implicit_lambda% (at_own ?O ?F ?X ?N ?hm ?m1 ?m2 ?hl ?hv ?_);(case F=>k_asm);(case X=>k_in);(case N=>k_asm);(case hm=>exact rfl);(case m1 | m2=>k_mem);(case hl=>exact rfl);(case hv=>k_handed);(case O=>first | exact ow1 _ | exact ow5 _ | exact ow6 _ | exact ow2 _ | exact ow3 _ | exact ow4 _ | exact ⟨by k_is,by k_is,_,by k_is,by k_is⟩))))|walk1|(refine StD.nx (by with_reducible assumption) _ ?_)|(refine StD.rt (by with_reducible assumption) _ _ ?_)|(refine Ups.up (by with_reducible assumption) _ _ ?_;(try dsimp only))|(k_end;wrow_close)|dsimp only|(leave1;try dsimp only))
  rename News _ _ _ _=>N9
  rename AllOff _ _=>O9
  refine fin_raise (by assumption) (by assumption) N9 (by k_mem) _ ?s1 ?s2 ?s3 (‹ExcIn _ _ _›)
  case s1=>lcg_sub
  case s2=>exact (fails_off (ex:=ex) O9 (by lcg_sub) (by assumption)).1
  case s3=>exact (fails_off (ex:=ex) O9 (by lcg_sub) (by assumption)).2
end
set_option maxHeartbeats 2000000
section
variable (w : World) {ex : Led} {dv : Value} {tx : Str} {T : Tr} {n : Nat} {f f1 : Int → Int} {u u2 : Tok} {j : Int} {x : Nat} {l l' l0 : List Nat}
theorem pattern_no (h0 : At tx 0 (113 :: 32 :: l0)) (hR : TopReads w ex dv true tx T n 2 j) (hl : tx.length ≤ 1000) (ha : At tx 2 (x :: l)) (hx : (hdS (x :: l) == Str.ofString "^") = false) (haj : At tx j (32 :: l')) (hj : 2 < j) (hL : ∀ tl r,NodeIn tl T r → LevC w (ex ++ tl) r f n) (hf : 20 < f 0) (hdv : handedIn dv = true) :
    SatE w 899 (n + 20) [.str tx u,.int 2 u2,dv] ex (fun e d own'=>ExcIn own' d 2):=by
  refine' satE_of (binds:=[(Str.ofString "text",.str tx u),(Str.ofString "at",.int 2 u2),(Str.ofString "definitions",dv)]) ?ho ?hcd ?hn ?hbind ?hloc ?h ?hcell ?hco ?hgen ?hk
  (case ho=>k_is);(case hcd=>k_is);(case hn=>first | decide | lia);(case hbind=>intro s X;first | exact BindsTo.of_eq rfl | exact binds_K X rfl (by k_is) rfl rfl rfl);(case hloc=>exact locs rfl)
  (case hcell=>decide);(case hco=>rfl);(case hgen=>rfl);(case hk=>rfl)
  intros
  repeat' (first|(k_unfold;(try dsimp only))|((with_reducible show wpAny _ _ (call _ _) _ _ _);first|(k_here;(with_reducible show wpAny _ _ (call (Value.ref 773) [_,_,Value.int 2 _]) _ _ _);k_dflt (refine' no_implicit_lambda% (use_ron (failed2x _ _ _ _ _ _ _ _ _ _ _ _ _ _ _ _ _ _ _ _ _ _ _ _ ?hl ?ha _ _ _) ?hs ?B ?F ?X ?N ?T ?kk ?dd ?uu ?_);tb_rel;(case hs=>lcg_sub);(case hl | ha=>assumption));intro qr' qtl' qh' qtk' qF' qN' qhV' qhO';(refine no_implicit_lambda% (gen fun qG qhG=>?_));k_dflt (obtain ⟨qe',qd',qt',qrest',qe9',qe8',qoff',qhE'⟩:=qhV');subst qe9' qe8';(refine no_implicit_lambda% (qhG ?_));(clear qhG);(try simp only [List.cons_append,List.nil_append,List.append_assoc] at qN');(try k_sweep))|(k_here;(with_reducible show wpAny _ _ (call (Value.ref 148) _) _ _ _);k_dflt (refine' no_implicit_lambda% (use_bool (skip_not _ _ _ _ _ _ _ _ _ ?hl ?ha _ _ ?hy ?hn) ?hs ?B ?F ?X ?N ?T ?kk ?dd ?uu ?_);tb_rel;(case hs=>first | assumption|(repeat' (first | exact trivial | k_mem | refine no_implicit_lambda% (And.intro ?_ ?_))));(case hl | ha=>assumption);(case hy | hn=>first | assumption | rfl));intro qh' qtk' qF' qN';(try k_sweep))|(k_here;(with_reducible show wpAny _ _ (call (Value.ref 879) _) _ _ _);k_dflt (refine' no_implicit_lambda% (reader_call ?hdv ?B ?F ?X ?N ?T ?kk ?dd ?uu ?_);tb_rel;(case hdv=>assumption));intro qr' qdr' qc' qdc' qh1' qh2' qh3' qh4' qhT' qhA' qu1' qu2' qu3' qu4' qt5' qk1' qk2' qk3' qt4' qh' qtk' qF' qN' ql1' ql2' ql3' ql4';(try k_sweep))|(k_here;(with_reducible show wpAny _ _ (call (Value.ref 682) [_]) _ _ _);k_dflt (refine' no_implicit_lambda% (use_rocI (LevC.use0 ?S) ?hs ?B ?F ?X ?N ?T ?kk ?dd ?uu ?_);(case S=>assumption);tb_rel;(case hs=>lcg_sub));intro qt9' qh' qtk' qF' qN';(try k_sweep))|(k_here;(with_reducible show wpAny _ _ (call (Value.ref 794) _) _ _ _);k_dflt (refine' no_implicit_lambda% (use_top (‹TopReads _ _ _ _ _ _ _ _ _›) ?hs ?n1 ?n2 ?n3 ?n4 ?n5 ?n6 ?x1 ?x2 ?x3 ?x4 ?U1 ?U2 ?B ?F ?X ?N ?T ?kk ?dd ?uu ?_);tb_rel;(case hs=>lcg_sub);(case n1=>k_ne);(case n2=>k_ne);(case n3=>k_ne);(case n4=>k_ne);(case n5=>k_ne);(case n6=>k_ne);(case x1=>k_all);(case x2=>k_all);(case x3=>k_all);(case x4=>k_all);(case U1=>k_updF);(case U2=>(intro qo';first|(refine' no_implicit_lambda% (UpdF.tail ?a7 ?b7);(case a7=>k_ne);(case b7=>(refine' no_implicit_lambda% (UpdF.head ?a8);(case a8=>(refine no_implicit_lambda% (off_cons9 ?aa ?bb);(case aa=>((try dsimp only);k_ne));(case bb=>(refine no_implicit_lambda% (off_cons9 ?aa ?bb);(case aa=>((try dsimp only);k_ne));(case bb=>k_all))))))))|k_updF)));intro qr' qtl' qt5' qt4' qh' qtk' qF' qN' qhV' qhO';(try have hLv':=(‹∀ tl r,NodeIn tl _ r → LevC _ _ r _ _›) _ _ qhV');(try simp only [List.cons_append,List.nil_append,List.append_assoc] at qN');(try k_sweep))|(k_here;(with_reducible show wpAny _ _ (call (Value.ref 127) _) _ _ _);k_dflt (refine' no_implicit_lambda% (use_str (peek_at _ _ _ _ _ _ _ _ _ ?hl ?ha) ?hs rfl ?B ?F ?X ?N ?T ?kk ?dd ?uu ?_);(case hl | ha=>assumption);tb_rel;(case hs=>first | assumption|(repeat' (first | exact trivial | k_mem | refine no_implicit_lambda% (And.intro ?_ ?_)))));intro qt qh' qtk' qF' qN';(try k_sweep)))|(k_here;(with_reducible show wpAny _ _ (exec (Stmt.Raise (some _) none _) _) _ _ _);k_dflt (refine' no_implicit_lambda% (raise_instQ ?hh ?_);(case hh=>exact rfl)))|((with_reducible show wpAny _ _ (compareOp _ _ _) _ _ _);first|(k_here;(with_reducible show wpAny _ _ (compareOp CmpOp.Eq (Value.str _ _) (Value.str _ _)) _ _ _);first | refine no_implicit_lambda% (eq_str_t ‹(_ == _) = _› ?_)|refine no_implicit_lambda% (eq_str_t (b:=true) (by decide +kernel) ?_)|refine no_implicit_lambda% (eq_str_t (b:=false) (by decide +kernel) ?_))|(k_here;(with_reducible show wpAny _ _ (compareOp CmpOp.Eq (Value.int _ _) (Value.int _ _)) _ _ _);refine no_implicit_lambda% (eq_int_f (by lia) ?_))|(k_here;(with_reducible show wpAny _ _ (compareOp CmpOp.In (Value.str _ _) (Value.str _ _)) _ _ _);first | refine no_implicit_lambda% (in_b ‹(Builtin.Str.occurrences _ _ _ _ _).isEmpty = _› ?_)|refine no_implicit_lambda% (in_b (b:=true) (by decide +kernel) ?_)|refine no_implicit_lambda% (in_b (b:=false) (by decide +kernel) ?_)|refine no_implicit_lambda% (in_b rfl ?_)))|((with_reducible show wpAny _ _ (eval _ _) _ _ _);first|(k_here;(with_reducible show wpAny _ _ (eval (PySem.Expr.Call (PySem.Expr.Attribute (PySem.Expr.Name _ _) _ _) [PySem.Expr.Constant (Const.str _) _ _] [] _) _) _ _ _);k_dflt (refine' no_implicit_lambda% (call_nm1 ?M ?F ?X ?N ?hm ?m1 ?m2 ?hl ?_);(case F=>k_asm);(case X=>k_in);(case N=>k_asm);(case hm=>exact rfl);(case m1 | m2=>k_mem);(case hl=>exact rfl);(case M=>first | exact mw8 _ | exact mw9 _ | exact mw10 _ | exact mw11 _ | exact mw12 _ | exact mw1 _ | exact mw2 _ | exact mw4 _ | exact mw5 _)))|(k_here;(with_reducible show wpAny _ _ (eval (PySem.Expr.Call (PySem.Expr.Attribute (PySem.Expr.Name _ _) _ _) [] [] _) _) _ _ _);k_dflt (refine' no_implicit_lambda% (call_nm0 ?M ?F ?X ?N ?hm ?m1 ?m2 ?hl ?_);(case F=>k_asm);(case X=>k_in);(case N=>k_asm);(case hm=>exact rfl);(case m1 | m2=>k_mem);(case hl=>exact rfl);(case M=>first | exact mw8 _ | exact mw9 _ | exact mw10 _ | exact mw11 _ | exact mw12 _ | exact mw1 _ | exact mw2 _ | exact mw4 _ | exact mw5 _)))|(k_here;(with_reducible show wpAny _ _ (eval (PySem.Expr.Call (PySem.Expr.Attribute (PySem.Expr.Attribute (PySem.Expr.Name _ _) _ _) _ _) [] [] _) _) _ _ _);k_dflt (refine' no_implicit_lambda% (call_at0 ?O ?M ?F ?X ?N ?hm ?m1 ?m2 ?hl ?m3 ?m4 ?hl2 ?_);(case F=>k_asm);(case X=>k_in);(case N=>k_asm);(case hm=>exact rfl);(case m1 | m2=>k_mem);(case hl=>exact rfl);(case m3 | m4=>k_mem);(case hl2=>exact rfl);(case O=>exact ow1 _);(case M=>first | exact mw5 _ | exact mw2 _ | exact mw4 _ | exact mw1 _ | exact mw6 _ | exact mw12 _)))|(k_here;(with_reducible show wpAny _ _ (eval (PySem.Expr.Attribute (PySem.Expr.Name _ _) _ _) _) _ _ _);k_dflt (refine' no_implicit_lambda% (at_own ?O ?F ?X ?N ?hm ?m1 ?m2 ?hl ?hv ?_);(case F=>k_asm);(case X=>k_in);(case N=>k_asm);(case hm=>exact rfl);(case m1 | m2=>k_mem);(case hl=>exact rfl);(case hv=>k_handed);(case O=>first | exact ow1 _ | exact ow5 _ | exact ow6 _ | exact ow2 _ | exact ow3 _ | exact ow4 _ | exact ⟨by k_is,by k_is,_,by k_is,by k_is⟩))))|walk1|(refine StD.nx (by with_reducible assumption) _ ?_)|(refine StD.rt (by with_reducible assumption) _ _ ?_)|(refine Ups.up (by with_reducible assumption) _ _ ?_;(try dsimp only))|(k_end;wrow_close)|dsimp only|(leave1;try dsimp only))
  rename News _ _ _ _=>N9
  rename AllOff _ _=>O9
  refine fin_raise (by assumption) (by assumption) N9 (by k_mem) _ ?s1 ?s2 ?s3 (‹ExcIn _ _ _›)
  case s1=>lcg_sub
  case s2=>exact (fails_off (ex:=ex) O9 (by lcg_sub) (by assumption)).1
  case s3=>exact (fails_off (ex:=ex) O9 (by lcg_sub) (by assumption)).2
theorem trail_no {yh : String × Bool} (h0 : At tx 0 (113 :: 32 :: l0)) (hyh : hdT T = some yh) (hR1 : TopReads w ex dv true tx (.chars 120) n 2 3) (hR : TopReads2 w ex dv true tx T n (3 + 1) j) (hl : tx.length ≤ 1000) (ha : At tx 2 (120 :: 47 :: l)) (ha3 : At tx 3 (47 :: l)) (haj : At tx j (32 :: l')) (hj : 4 < j)
    (hL1 : ∀ tl r,NodeIn tl (.chars 120) r → LevC w (ex ++ tl) r f1 n) (hf1 : f1 0 ≤ 20) (hL : ∀ tl r,NodeIn tl T r → LevC w (ex ++ tl) r f n) (hf : 20 < f 0) (hdv : handedIn dv = true) :
    SatE w 899 (n + 20) [.str tx u,.int 2 u2,dv] ex (fun e d own'=>ExcIn own' d 2):=by
  have hx : (hdS (120 :: 47 :: l) == Str.ofString "^") = false:=by show (Str.mk #[120] == Str.ofString "^") = false;decide +kernel
  refine' satE_of (binds:=[(Str.ofString "text",.str tx u),(Str.ofString "at",.int 2 u2),(Str.ofString "definitions",dv)]) ?ho ?hcd ?hn ?hbind ?hloc ?h ?hcell ?hco ?hgen ?hk
  (case ho=>k_is);(case hcd=>k_is);(case hn=>first | decide | lia);(case hbind=>intro s X;first | exact BindsTo.of_eq rfl | exact binds_K X rfl (by k_is) rfl rfl rfl);(case hloc=>exact locs rfl)
  (case hcell=>decide);(case hco=>rfl);(case hgen=>rfl);(case hk=>rfl)
  intros
  repeat' (first|(k_unfold;(try dsimp only))|((with_reducible show wpAny _ _ (call _ _) _ _ _);first|(k_here;(with_reducible show wpAny _ _ (call (Value.ref 773) [_,_,Value.int 2 _]) _ _ _);k_dflt (refine' no_implicit_lambda% (use_ron (failed2x _ _ _ _ _ _ _ _ _ _ _ _ _ _ _ _ _ _ _ _ _ _ _ _ ?hl ?ha _ _ _) ?hs ?B ?F ?X ?N ?T ?kk ?dd ?uu ?_);tb_rel;(case hs=>lcg_sub);(case hl | ha=>assumption));intro qr' qtl' qh' qtk' qF' qN' qhV' qhO';(refine no_implicit_lambda% (gen fun qG qhG=>?_));k_dflt (obtain ⟨qe',qd',qt',qrest',qe9',qe8',qoff',qhE'⟩:=qhV');subst qe9' qe8';(refine no_implicit_lambda% (qhG ?_));(clear qhG);(try simp only [List.cons_append,List.nil_append,List.append_assoc] at qN');(try k_sweep))|(k_here;(with_reducible show wpAny _ _ (call (Value.ref 148) _) _ _ _);k_dflt (refine' no_implicit_lambda% (use_cur_bool (skip_yes _ _ _ _ _ _ _ _ _ ?hl ?ha _ _ ?hy ?hne) ?hs ?U ?hne ?B ?F ?X ?N ?T ?kk ?dd ?uu ?_);tb_rel;(case hs=>first | assumption|(repeat' (first | exact trivial | k_mem | refine no_implicit_lambda% (And.intro ?_ ?_))));(case hl | ha=>assumption);(case hy=>first | assumption | rfl);(case U=>first|(refine' no_implicit_lambda% (UpdF.tail ?a7 ?b7);(case a7=>k_ne);(case b7=>(refine' no_implicit_lambda% (UpdF.head ?a8);(case a8=>(refine no_implicit_lambda% (off_cons9 ?aa ?bb);(case aa=>((try dsimp only);k_ne));(case bb=>(refine no_implicit_lambda% (off_cons9 ?aa ?bb);(case aa=>((try dsimp only);k_ne));(case bb=>k_all))))))))|k_updF);(case hne=>first | assumption | lia | k_ne));intro qt qh' qtk' qF' qN';(try k_sweep))|(k_here;(with_reducible show wpAny _ _ (call (Value.ref 794) _) _ _ _);k_dflt (refine' no_implicit_lambda% (use_top (TopReads2.of (‹TopReads2 _ _ _ _ _ _ _ _ _›)) ?hs ?n1 ?n2 ?n3 ?n4 ?n5 ?n6 ?x1 ?x2 ?x3 ?x4 ?U1 ?U2 ?B ?F ?X ?N ?T ?kk ?dd ?uu ?_);tb_rel;(case hs=>lcg_sub);(case n1=>k_ne);(case n2=>k_ne);(case n3=>k_ne);(case n4=>k_ne);(case n5=>k_ne);(case n6=>k_ne);(case x1=>k_all);(case x2=>k_all);(case x3=>k_all);(case x4=>k_all);(case U1=>k_updF);(case U2=>(intro qo';first|(refine' no_implicit_lambda% (UpdF.tail ?a7 ?b7);(case a7=>k_ne);(case b7=>(refine' no_implicit_lambda% (UpdF.head ?a8);(case a8=>(refine no_implicit_lambda% (off_cons9 ?aa ?bb);(case aa=>((try dsimp only);k_ne));(case bb=>(refine no_implicit_lambda% (off_cons9 ?aa ?bb);(case aa=>((try dsimp only);k_ne));(case bb=>k_all))))))))|k_updF)));intro qr' qtl' qt5' qt4' qh' qtk' qF' qN' qhV' qhO';(refine no_implicit_lambda% (gen fun qG qhG=>?_));k_dflt (obtain ⟨qb9',qe9'⟩:=ref_of (‹hdT _ = some _›) qhV');subst qe9';(refine no_implicit_lambda% (qhG ?_));(clear qhG);(try have hLv':=(‹∀ tl r,NodeIn tl _ r → LevC _ _ r _ _›) _ _ qhV');(try simp only [List.cons_append,List.nil_append,List.append_assoc] at qN');(try k_sweep))|(k_here;(with_reducible show wpAny _ _ (call (Value.ref 148) _) _ _ _);k_dflt (refine' no_implicit_lambda% (use_bool (skip_not _ _ _ _ _ _ _ _ _ ?hl ?ha _ _ ?hy ?hn) ?hs ?B ?F ?X ?N ?T ?kk ?dd ?uu ?_);tb_rel;(case hs=>first | assumption|(repeat' (first | exact trivial | k_mem | refine no_implicit_lambda% (And.intro ?_ ?_))));(case hl | ha=>assumption);(case hy | hn=>first | assumption | rfl));intro qh' qtk' qF' qN';(try k_sweep))|(k_here;(with_reducible show wpAny _ _ (call (Value.ref 879) _) _ _ _);k_dflt (refine' no_implicit_lambda% (reader_call ?hdv ?B ?F ?X ?N ?T ?kk ?dd ?uu ?_);tb_rel;(case hdv=>assumption));intro qr' qdr' qc' qdc' qh1' qh2' qh3' qh4' qhT' qhA' qu1' qu2' qu3' qu4' qt5' qk1' qk2' qk3' qt4' qh' qtk' qF' qN' ql1' ql2' ql3' ql4';(try k_sweep))|(k_here;(with_reducible show wpAny _ _ (call (Value.ref 682) [_]) _ _ _);k_dflt (refine' no_implicit_lambda% (use_rocI (LevC.use0 ?S) ?hs ?B ?F ?X ?N ?T ?kk ?dd ?uu ?_);(case S=>assumption);tb_rel;(case hs=>lcg_sub));intro qt9' qh' qtk' qF' qN';(try k_sweep))|(k_here;(with_reducible show wpAny _ _ (call (Value.ref 794) _) _ _ _);k_dflt (refine' no_implicit_lambda% (use_top (‹TopReads _ _ _ _ _ _ _ _ _›) ?hs ?n1 ?n2 ?n3 ?n4 ?n5 ?n6 ?x1 ?x2 ?x3 ?x4 ?U1 ?U2 ?B ?F ?X ?N ?T ?kk ?dd ?uu ?_);tb_rel;(case hs=>lcg_sub);(case n1=>k_ne);(case n2=>k_ne);(case n3=>k_ne);(case n4=>k_ne);(case n5=>k_ne);(case n6=>k_ne);(case x1=>k_all);(case x2=>k_all);(case x3=>k_all);(case x4=>k_all);(case U1=>k_updF);(case U2=>(intro qo';first|(refine' no_implicit_lambda% (UpdF.tail ?a7 ?b7);(case a7=>k_ne);(case b7=>(refine' no_implicit_lambda% (UpdF.head ?a8);(case a8=>(refine no_implicit_lambda% (off_cons9 ?aa ?bb);(case aa=>((try dsimp only);k_ne));(case bb=>(refine no_implicit_lambda% (off_cons9 ?aa ?bb);(case aa=>((try dsimp only);k_ne));(case bb=>k_all))))))))|k_updF)));intro qr' qtl' qt5' qt4' qh' qtk' qF' qN' qhV' qhO';(try have hLv':=(‹∀ tl r,NodeIn tl _ r → LevC _ _ r _ _›) _ _ qhV');(try simp only [List.cons_append,List.nil_append,List.append_assoc] at qN');(try k_sweep))|(k_here;(with_reducible show wpAny _ _ (call (Value.ref 127) _) _ _ _);k_dflt (refine' no_implicit_lambda% (use_str (peek_at _ _ _ _ _ _ _ _ _ ?hl ?ha) ?hs rfl ?B ?F ?X ?N ?T ?kk ?dd ?uu ?_);(case hl | ha=>assumption);tb_rel;(case hs=>first | assumption|(repeat' (first | exact trivial | k_mem | refine no_implicit_lambda% (And.intro ?_ ?_)))));intro qt qh' qtk' qF' qN';(try k_sweep)))|(k_here;(with_reducible show wpAny _ _ (exec (Stmt.Raise (some _) none _) _) _ _ _);k_dflt (refine' no_implicit_lambda% (raise_instQ ?hh ?_);(case hh=>exact rfl)))|((with_reducible show wpAny _ _ (compareOp _ _ _) _ _ _);first|(k_here;(with_reducible show wpAny _ _ (compareOp CmpOp.Eq (Value.str _ _) (Value.str _ _)) _ _ _);first | refine no_implicit_lambda% (eq_str_t ‹(_ == _) = _› ?_)|refine no_implicit_lambda% (eq_str_t (b:=true) (by decide +kernel) ?_)|refine no_implicit_lambda% (eq_str_t (b:=false) (by decide +kernel) ?_))|(k_here;(with_reducible show wpAny _ _ (compareOp CmpOp.Eq (Value.int _ _) (Value.int _ _)) _ _ _);refine no_implicit_lambda% (eq_int_f (by lia) ?_))|(k_here;(with_reducible show wpAny _ _ (compareOp CmpOp.In (Value.str _ _) (Value.str _ _)) _ _ _);first | refine no_implicit_lambda% (in_b ‹(Builtin.Str.occurrences _ _ _ _ _).isEmpty = _› ?_)|refine no_implicit_lambda% (in_b (b:=true) (by decide +kernel) ?_)|refine no_implicit_lambda% (in_b (b:=false) (by decide +kernel) ?_)|refine no_implicit_lambda% (in_b rfl ?_)))|((with_reducible show wpAny _ _ (eval _ _) _ _ _);first|(k_here;(with_reducible show wpAny _ _ (eval (PySem.Expr.Call (PySem.Expr.Attribute (PySem.Expr.Name _ _) _ _) [PySem.Expr.Constant (Const.str _) _ _] [] _) _) _ _ _);k_dflt (refine' no_implicit_lambda% (call_nm1 ?M ?F ?X ?N ?hm ?m1 ?m2 ?hl ?_);(case F=>k_asm);(case X=>k_in);(case N=>k_asm);(case hm=>exact rfl);(case m1 | m2=>k_mem);(case hl=>exact rfl);(case M=>first | exact mw8 _ | exact mw9 _ | exact mw10 _ | exact mw11 _ | exact mw12 _ | exact mw1 _ | exact mw2 _ | exact mw4 _ | exact mw5 _)))|(k_here;(with_reducible show wpAny _ _ (eval (PySem.Expr.Call (PySem.Expr.Attribute (PySem.Expr.Name _ _) _ _) [] [] _) _) _ _ _);k_dflt (refine' no_implicit_lambda% (call_nm0 ?M ?F ?X ?N ?hm ?m1 ?m2 ?hl ?_);(case F=>k_asm);(case X=>k_in);(case N=>k_asm);(case hm=>exact rfl);(case m1 | m2=>k_mem);(case hl=>exact rfl);(case M=>first | exact mw8 _ | exact mw9 _ | exact mw10 _ | exact mw11 _ | exact mw12 _ | exact mw1 _ | exact mw2 _ | exact mw4 _ | exact mw5 _)))|(k_here;(with_reducible show wpAny _ _ (eval (PySem.Expr.Call (PySem.Expr.Attribute (PySem.Expr.Attribute (PySem.Expr.Name _ _) _ _) _ _) [] [] _) _) _ _ _);k_dflt (refine' no_implicit_lambda% (call_at0 ?O ?M ?F ?X ?N ?hm ?m1 ?m2 ?hl ?m3 ?m4 ?hl2 ?_);(case F=>k_asm);(case X=>k_in);(case N=>k_asm);(case hm=>exact rfl);(case m1 | m2=>k_mem);(case hl=>exact rfl);(case m3 | m4=>k_mem);(case hl2=>exact rfl);(case O=>exact ow1 _);(case M=>first | exact mw5 _ | exact mw2 _ | exact mw4 _ | exact mw1 _ | exact mw6 _ | exact mw12 _)))|(k_here;(with_reducible show wpAny _ _ (eval (PySem.Expr.Attribute (PySem.Expr.Name _ _) _ _) _) _ _ _);k_dflt (refine' no_implicit_lambda% (at_own ?O ?F ?X ?N ?hm ?m1 ?m2 ?hl ?hv ?_);(case F=>k_asm);(case X=>k_in);(case N=>k_asm);(case hm=>exact rfl);(case m1 | m2=>k_mem);(case hl=>exact rfl);(case hv=>k_handed);(case O=>first | exact ow1 _ | exact ow5 _ | exact ow6 _ | exact ow2 _ | exact ow3 _ | exact ow4 _ | exact ⟨by k_is,by k_is,_,by k_is,by k_is⟩))))|walk1|(refine StD.nx (by with_reducible assumption) _ ?_)|(refine StD.rt (by with_reducible assumption) _ _ ?_)|(refine Ups.up (by with_reducible assumption) _ _ ?_;(try dsimp only))|(k_end;wrow_close)|dsimp only|(leave1;try dsimp only))
  rename News _ _ _ _=>N9
  rename AllOff _ _=>O9
  refine fin_raise (by assumption) (by assumption) N9 (by k_mem) _ ?s1 ?s2 ?s3 (‹ExcIn _ _ _›)
  case s1=>lcg_sub
  case s2=>exact (fails_off (ex:=ex) O9 (by lcg_sub) (by assumption)).1
  case s3=>exact (fails_off (ex:=ex) O9 (by lcg_sub) (by assumption)).2
end
set_option maxHeartbeats 2000000
section
variable {prog : Program} {w : World} {A : Around} {E : Value → Shared → Prop} {s : Shared} {h₀ : Heap} {L e d : Addr} {m : Str → Option Value} {news : Led} {vs : Array Value}
theorem exc_ga : findIn (KF w.params) (.ref 95) "__getattribute__" = some (some (.builtin "BaseException.__getattribute__")):=by k_is
theorem exc_gn : findIn (KF w.params) (.ref 95) "__getattr__" = some none:=by k_is
theorem exc_mb : mroIn (KF w.params) 95 (.type "BaseException") = some true:=by k_is
theorem exc_hd : hasDictIn (KF w.params) 95 = true:=by k_is
theorem exc_fa : findIn (KF w.params) (.ref 95) (Str.ofString "at") = some none:=by k_is
theorem exc_at {h1 h2 : Int} {u1 u2 : Tok} {v1 v2 : Value} {expr : Bool} {Q : Value → Shared → Prop} (F : Fr h₀ L s.heap m) (N : News h₀ L s.heap news) (X₀ : (KF w.params).In h₀) (he : (e,({ cls:=.ref 95,dict:=some d,data:=.fields vs } : Obj)) ∈ news)
    (hd : (d,dictOf [⟨h1,.str (Str.ofString "what") u1,v1⟩,⟨h2,.str (Str.ofString "at") u2,v2⟩] 2) ∈ news) (hv : handedIn v2 = true) (h : Q v2 { s with toks:=s.toks + 1 }) : wpAny (model prog w) A (getAttr (.ref e) (Str.ofString "at") expr) Q E s:=by
  have X:=X₀.keeps F.keep
  have he:=(N _ he).1
  have I : InstAt s.heap e { cls:=.ref 95,dict:=some d,data:=.fields vs } 95 (some (dictOf [⟨h1,.str (Str.ofString "what") u1,v1⟩,⟨h2,.str (Str.ofString "at") u2,v2⟩] 2)):=⟨he,rfl,rfl,(N _ hd).1⟩
  have hl9 : getL (Str.ofString "at") [⟨h1,.str (Str.ofString "what") u1,v1⟩,⟨h2,.str (Str.ofString "at") u2,v2⟩] = some (some v2):=by rfl
  have hf : findObj (KF w.params) 95 (some (dictOf [⟨h1,.str (Str.ofString "what") u1,v1⟩,⟨h2,.str (Str.ofString "at") u2,v2⟩] 2)) (Str.ofString "at") = some (.value v2):=findObj_own (attr:=none) exc_hd exc_fa (show noGet _ none = true from rfl) hl9
  have FB:=PySem.F.attr_Exception.ga
  obtain ⟨hp,g,dr,tk,os⟩:=s
  have L0:=I.type (M:=model prog w)
  have L1:=looks_findIn (M:=model prog w) X exc_ga
  have L2:=looks_findIn (M:=model prog w) X exc_gn
  have L3:=looks_find (M:=model prog w) X I hf
  have sub : Looks (model prog w) hp (isInstance (.ref e) (.type "BaseException")) true:=L0.andThen (looks_mroIn X exc_mb)
  unfold getAttr getAttrBy
  refine wpAny_bind (wpAny_mkText (wpAny_holding (wpAny_bind (L0.at (wpAny_bind (L1.at ?_))))))
  show wpAny _ _ (getAttrByItsOwn _ _ _ _ _ _) _ _ _
  unfold getAttrByItsOwn
  refine wpAny_bind (L2.at (wpAny_bind (wpAny_attempt (wpAny_holding ?_))))
  unfold callGetattribute
  have hx : (expr && onTheHeap (Value.builtin "BaseException.__getattribute__")) = false:=by cases expr <;> rfl
  rw [hx]
  unfold boundAndCalled
  rw [if_neg Bool.false_ne_true,FB.bind]
  refine wpAny_bind (wpAny_pure (wpAny_call (codeAny_call_builtin FB.plain PySem.F.entry_bexc_ga (check_slot (i:="BaseException.__getattribute__") (owner:="BaseException") (n:="__getattribute__") (by decide +kernel) (by decide +kernel) sub (PySem.F.args_bexc_ga (.ref e) (.str (Str.ofString "at") tk)) ?_))))
  unfold Builtin.«object.__getattribute__»
  refine wpAny_bind (wpAny_pure (wpAny_bind (wpAny_pure (wpAny_bind (L0.at (wpAny_bind (L3.at ?_)))))))
  refine wpAny_pure ?_
  show wpAny _ _ (handedOut v2) _ _ _
  rw [handedOut_of hv]
  exact wpAny_pure h
end
set_option maxHeartbeats 2000000
theorem use_satE {w : World} {f : Addr} {n : Nat} {vs : List Value} {own news : Led} {Post : Addr → Addr → Led → Prop} {p : Program} {loose : List Str} {mean : ExcName → Option Value} {mg mb : Str → Option Value} {dp un : Nat} {gd : Option (List Code)} {cn : Str} {cs : Scope} {a : Addr} {ccd : Value} {cl : List (Str × Addr)} {outer : List Env} {A₀ : Around} {base h₀ : Heap} {L : Addr} {m : Str → Option Value} {s : Shared} {Q E : Value → Shared → Prop}
    (S : SatE w f n vs own Post) (hs : ∀ q ∈ own,q ∈ news) (B : Below A₀ base outer h₀) (F : Fr h₀ L s.heap m) (X : (KF w.params).In h₀) (N : News h₀ L s.heap news) (T : Top p loose mean mg mb h₀) (hk : cs.kind = .function) (hd : dp + n < recursionLimit) (hu : un + 8 * n < cLine)
    (ret : ∀ e d own' h' tk',Fr h₀ L s.heap m → News h₀ L s.heap news → RaisedD base s.heap (envX cn cs L a ccd cl :: outer) e d own' h' → s.heap.UpToSlots h' → Post e d own' → E (.ref e) { s with heap:=h',toks:=tk' }) :
    wpAny (model PR w) (ktrTop dp un gd cn cs L a ccd cl outer) (call (.ref f) vs) Q E s :=
  S p loose mean mg mb dp un gd cn cs a ccd cl outer A₀ base h₀ L m s Q E B F X (fun q hq=>N q (hs q hq)) T hk hd hu fun e d own' h' tk' R U P=>ret e d own' h' tk' F N R U P
theorem done_t {fs : List Addr} {g g' h' : Heap} {s : Shared} {Post : Value → Led → Prop} {v : Value} {L' : Addr} {m' : Str → Option Value} {news own : Led} {tk' : Nat} (T : KtsTurn fs g g') (F : Fr g' L' h' m') (N : News g' L' h' news) (hs : ∀ q ∈ own,q ∈ news) (P : Post v own) :
    DoneT fs g s Post v { s with heap:=h',toks:=tk' }:=⟨g',L',m',own,h',tk',rfl,T,F,fun q hq=>N q (hs q hq),P⟩
theorem heard_no (w : World) {ex : Led} {tx : Str} {u : Tok} {dv : Value} {n : Nat} {j : Int} (S : SatE w 891 n [.str tx u,dv] ex (fun e d own'=>ExcIn own' d j)) :
    SatT w 941 (n + 10) [.str tx u,dv] ex (fun r own'=>(∃ t,r = .int j t) ∧ own' = ex):=by
  refine' satT_of (binds:=[(Str.ofString "page",.str tx u),(Str.ofString "known",dv)]) ?ho ?hcd ?hn ?hbind ?hloc ?h ?hcell ?hco ?hgen ?hk
  (case ho=>k_is);(case hcd=>k_is);(case hn=>first | decide | lia);(case hbind=>intro s X;first | exact BindsTo.of_eq rfl | exact binds_K X rfl (by k_is) rfl rfl rfl);(case hloc=>exact locs rfl)
  (case hcell=>decide);(case hco=>rfl);(case hgen=>rfl);(case hk=>rfl)
  intro p loose mean mg mb dp un gd cn cs a ccd cl outer base g L L' h₁ s F' N' B' X' T' hd hu XB TB
  repeat' ((fail_if_success (with_reducible show wpAny _ _ (call (Value.ref 891) _) _ _ _));first|(k_unfold;(try dsimp only))|walk1|(refine StD.nx (by with_reducible assumption) _ ?_)|(refine StD.rt (by with_reducible assumption) _ _ ?_)|(refine Ups.up (by with_reducible assumption) _ _ ?_;(try dsimp only))|(k_end;wrow_close)|(dsimp only;walk1)|(leave1;try dsimp only))
  k_dflt (refine' use_satE S ?hs ?B ?F ?X ?N ?T ?kk ?dd ?uu ?_;tb_rel;(case hs=>lcg_sub))
  intro e d own' h' tk' F9 N9 R9 U9 P9
  refine caught_D R9 U9 B' F9 N9 XB TB (by k_is) ?_
  intro h2 g2 vs2 tk2 T2 F2 N2 off2 offn2 B2 X2 P2
  clear F9 N9 R9 U9 F' N' B' X' T'
  refine gen fun G hG=>?_
  obtain ⟨h1,u1,v1,h3,u3,v3,md,ps,pd,h4,u4,t4,h5,u5,v5,h6,u6,v6,rfl,mp,mpd⟩:=P9
  refine hG ?_;clear hG
  have m0 : (e,({ cls:=.ref 95,dict:=some d,data:=.fields vs2 } : Obj)) ∈ ((e,({ cls:=.ref 95,dict:=some d,data:=.fields vs2 } : Obj)) :: (ex ++ own')):=.head _
  have m1:=List.mem_cons_of_mem (e,({ cls:=.ref 95,dict:=some d,data:=.fields vs2 } : Obj)) (List.mem_append_right ex md)
  have m2:=List.mem_cons_of_mem (e,({ cls:=.ref 95,dict:=some d,data:=.fields vs2 } : Obj)) (List.mem_append_right ex mp)
  have m3:=List.mem_cons_of_mem (e,({ cls:=.ref 95,dict:=some d,data:=.fields vs2 } : Obj)) (List.mem_append_right ex mpd)
  have hs9 : ∀ q ∈ ex,q ∈ (e,({ cls:=.ref 95,dict:=some d,data:=.fields vs2 } : Obj)) :: (ex ++ own'):=fun q hq=>.tail _ (List.mem_append_left _ hq)
  generalize hn9 : (e,({ cls:=.ref 95,dict:=some d,data:=.fields vs2 } : Obj)) :: (ex ++ own') = n9 at N2 m0 m1 m2 m3 hs9
  repeat' (first|(k_unfold;(try dsimp only))|(k_here;(with_reducible show wpAny _ _ (getAttr (Value.ref _) (PySem.Str.ofString "at") _) _ _ _);k_dflt (refine' no_implicit_lambda% (exc_at ?F ?N ?X ?he ?hd ?hv ?_);(case F=>k_asm);(case N=>k_asm);(case X=>k_asm);(case he=>assumption);(case hd=>assumption);(case hv=>first | rfl | assumption)))|walk1|(refine StD.nx (by with_reducible assumption) _ ?_)|(refine StD.rt (by with_reducible assumption) _ _ ?_)|(refine Ups.up (by with_reducible assumption) _ _ ?_;(try dsimp only))|(k_end;wrow_close)|dsimp only|(leave1;try dsimp only))
  exact done_t T2 (by assumption) (by assumption) hs9 ⟨⟨_,rfl⟩,rfl⟩
theorem parted_no (w : World) {ex : Led} {tx : Str} {u : Tok} {dv : Value} {n : Nat} {j : Int} (S : ∀ u2,SatE w 899 n [.str tx u,.int 2 u2,dv] ex (fun e d own'=>ExcIn own' d j)) :
    SatT w 948 (n + 10) [.str tx u,dv] ex (fun r own'=>(∃ t,r = .int j t) ∧ own' = ex):=by
  refine' satT_of (binds:=[(Str.ofString "page",.str tx u),(Str.ofString "known",dv)]) ?ho ?hcd ?hn ?hbind ?hloc ?h ?hcell ?hco ?hgen ?hk
  (case ho=>k_is);(case hcd=>k_is);(case hn=>first | decide | lia);(case hbind=>intro s X;first | exact BindsTo.of_eq rfl | exact binds_K X rfl (by k_is) rfl rfl rfl);(case hloc=>exact locs rfl)
  (case hcell=>decide);(case hco=>rfl);(case hgen=>rfl);(case hk=>rfl)
  intro p loose mean mg mb dp un gd cn cs a ccd cl outer base g L L' h₁ s F' N' B' X' T' hd hu XB TB
  repeat' ((fail_if_success (with_reducible show wpAny _ _ (call (Value.ref 899) _) _ _ _));first|(k_unfold;(try dsimp only))|walk1|(refine StD.nx (by with_reducible assumption) _ ?_)|(refine StD.rt (by with_reducible assumption) _ _ ?_)|(refine Ups.up (by with_reducible assumption) _ _ ?_;(try dsimp only))|(k_end;wrow_close)|(dsimp only;walk1)|(leave1;try dsimp only))
  k_dflt (refine' use_satE (S _) ?hs ?B ?F ?X ?N ?T ?kk ?dd ?uu ?_;tb_rel;(case hs=>lcg_sub))
  intro e d own' h' tk' F9 N9 R9 U9 P9
  refine caught_D R9 U9 B' F9 N9 XB TB (by k_is) ?_
  intro h2 g2 vs2 tk2 T2 F2 N2 off2 offn2 B2 X2 P2
  clear F9 N9 R9 U9 F' N' B' X' T'
  refine gen fun G hG=>?_
  obtain ⟨h1,u1,v1,h3,u3,v3,md,ps,pd,h4,u4,t4,h5,u5,v5,h6,u6,v6,rfl,mp,mpd⟩:=P9
  refine hG ?_;clear hG
  have m0 : (e,({ cls:=.ref 95,dict:=some d,data:=.fields vs2 } : Obj)) ∈ ((e,({ cls:=.ref 95,dict:=some d,data:=.fields vs2 } : Obj)) :: (ex ++ own')):=.head _
  have m1:=List.mem_cons_of_mem (e,({ cls:=.ref 95,dict:=some d,data:=.fields vs2 } : Obj)) (List.mem_append_right ex md)
  have m2:=List.mem_cons_of_mem (e,({ cls:=.ref 95,dict:=some d,data:=.fields vs2 } : Obj)) (List.mem_append_right ex mp)
  have m3:=List.mem_cons_of_mem (e,({ cls:=.ref 95,dict:=some d,data:=.fields vs2 } : Obj)) (List.mem_append_right ex mpd)
  have hs9 : ∀ q ∈ ex,q ∈ (e,({ cls:=.ref 95,dict:=some d,data:=.fields vs2 } : Obj)) :: (ex ++ own'):=fun q hq=>.tail _ (List.mem_append_left _ hq)
  generalize hn9 : (e,({ cls:=.ref 95,dict:=some d,data:=.fields vs2 } : Obj)) :: (ex ++ own') = n9 at N2 m0 m1 m2 m3 hs9
  repeat' (first|(k_unfold;(try dsimp only))|(k_here;(with_reducible show wpAny _ _ (getAttr (Value.ref _) (PySem.Str.ofString "at") _) _ _ _);k_dflt (refine' no_implicit_lambda% (exc_at ?F ?N ?X ?he ?hd ?hv ?_);(case F=>k_asm);(case N=>k_asm);(case X=>k_asm);(case he=>assumption);(case hd=>assumption);(case hv=>first | rfl | assumption)))|walk1|(refine StD.nx (by with_reducible assumption) _ ?_)|(refine StD.rt (by with_reducible assumption) _ _ ?_)|(refine Ups.up (by with_reducible assumption) _ _ ?_;(try dsimp only))|(k_end;wrow_close)|dsimp only|(leave1;try dsimp only))
  exact done_t T2 (by assumption) (by assumption) hs9 ⟨⟨_,rfl⟩,rfl⟩
set_option maxHeartbeats 2000000
theorem heard_ok (w : World) {ex : Led} {tx : Str} {u : Tok} {dv : Value} {n : Nat} {V : Led → Value → Prop} (S : Sat w 891 n [.str tx u,dv] ex (RO ex V)) : Sat w 941 (n + 10) [.str tx u,dv] ex (RO ex V):=by
  refine' sat_of (binds:=[(Str.ofString "page",.str tx u),(Str.ofString "known",dv)]) ?ho ?hcd ?hn ?hbind ?hloc ?h ?hcell ?hco ?hgen ?hk
  (case ho=>k_is);(case hcd=>k_is);(case hn=>first | decide | lia);(case hbind=>intro s X;first | exact BindsTo.of_eq rfl | exact binds_K X rfl (by k_is) rfl rfl rfl);(case hloc=>exact locs rfl)
  (case hcell=>decide);(case hco=>rfl);(case hgen=>rfl);(case hk=>rfl)
  intros
  repeat' (first|(k_unfold;(try dsimp only))|(k_here;(with_reducible show wpAny _ _ (call (Value.ref 891) _) _ _ _);k_dflt (refine' no_implicit_lambda% (use_ron (‹Sat _ 891 _ [_,_] _ (RO _ _)›) ?hs ?B ?F ?X ?N ?T ?kk ?dd ?uu ?_);tb_rel;(case hs=>lcg_sub));intro qr9' qtl9' qh' qtk' qF' qN' qhV' qhO';(try k_sweep))|walk1|(refine StD.nx (by with_reducible assumption) _ ?_)|(refine StD.rt (by with_reducible assumption) _ _ ?_)|(refine Ups.up (by with_reducible assumption) _ _ ?_;(try dsimp only))|(k_end;wrow_close)|dsimp only|(leave1;try dsimp only))
  rename News _ _ _ _=>N9
  rename AllOff _ _=>O9
  exact fin_ro (by assumption) N9 _ (fun _ h=>h) O9 (by assumption)
def PartIn (tl : Led) (T : Tr) (j : Int) (r : Value) : Prop:=∃ l e b t,r = .ref l ∧ (l,W.listOf #[.bool false,b,.none,.int j t] e) ∈ tl ∧ NodeIn tl T b
def PartT (tl : Led) (T1 T2 : Tr) (j : Int) (r : Value) : Prop:=∃ l e b c t,r = .ref l ∧ (l,W.listOf #[.bool false,b,c,.int j t] e) ∈ tl ∧ NodeIn tl T1 b ∧ NodeIn tl T2 c
theorem fin_list {ex tl n9 : Led} {V : Led → Value → Prop} {g h' : Heap} {s : Shared} {L' l : Addr} {o : Obj} {m' : Str → Option Value} {tk' : Nat} (F : Fr g L' h' m') (N : News g L' h' ((l,o) :: n9)) (e : ex ++ tl = n9) (la : AllLt l n9) (O : AllOff ex tl) (hV : V ((l,o) :: tl) (.ref l)) :
    Done g s (RO ex V) (.ref l) { s with heap:=h',toks:=tk' }:=by
  subst e
  refine fin_ro F N ((l,o) :: tl) (fun q hq=>?_) (.lt (allLt_sub la fun q hq=>List.mem_append_left _ hq) O) hV
  rcases List.mem_append.mp hq with hq | hq
  · exact .tail _ (List.mem_append_left _ hq)
  · rcases List.mem_cons.mp hq with rfl | hq
    · exact .head _
    · exact .tail _ (List.mem_append_right _ hq)
theorem parted_ok (w : World) {ex : Led} {tx : Str} {u : Tok} {dv : Value} {n : Nat} {T : Tr} {j : Int} {yh : String × Bool} (hyh : hdT T = some yh) (S : ∀ u2,Sat w 899 n [.str tx u,.int 2 u2,dv] ex (RO ex (fun tl r=>PatIn tl T j r))) : Sat w 948 (n + 10) [.str tx u,dv] ex (RO ex (fun tl r=>PartIn tl T j r)):=by
  refine' sat_of (binds:=[(Str.ofString "page",.str tx u),(Str.ofString "known",dv)]) ?ho ?hcd ?hn ?hbind ?hloc ?h ?hcell ?hco ?hgen ?hk
  (case ho=>k_is);(case hcd=>k_is);(case hn=>first | decide | lia);(case hbind=>intro s X;first | exact BindsTo.of_eq rfl | exact binds_K X rfl (by k_is) rfl rfl rfl);(case hloc=>exact locs rfl)
  (case hcell=>decide);(case hco=>rfl);(case hgen=>rfl);(case hk=>rfl)
  intro p loose mean mg mb dp un gd cn cs a ccd cl outer base g L L' h₁ s F' N' B' X' T' hd hu
  repeat' ((fail_if_success (with_reducible show wpAny _ _ (call (Value.ref 899) _) _ _ _));first|(k_unfold;(try dsimp only))|walk1|(refine StD.nx (by with_reducible assumption) _ ?_)|(refine StD.rt (by with_reducible assumption) _ _ ?_)|(refine Ups.up (by with_reducible assumption) _ _ ?_;(try dsimp only))|(k_end;wrow_close)|(dsimp only;walk1)|(leave1;try dsimp only))
  k_dflt (refine' use_ron (S _) ?hs ?B ?F ?X ?N ?T ?kk ?dd ?uu ?_;tb_rel;(case hs=>lcg_sub))
  intro r9' tl9' h' tk' F9 N9 hV' hO'
  clear F' N'
  refine gen fun G hG=>?_
  obtain ⟨tp,pa,pd,t,h1,t1,h2,t2,h3,t3,b,rfl,m1,m2,m3,n4⟩:=hV'
  obtain ⟨b9,rfl⟩:=ref_of hyh n4
  refine hG ?_;clear hG
  replace m1:=List.mem_append_right ex m1
  replace m2:=List.mem_append_right ex m2
  replace m3:=List.mem_append_right ex m3
  generalize hn9 : ex ++ tl9' = n9 at N9 m1 m2 m3
  repeat' (first|(k_unfold;(try dsimp only))|(k_here;(with_reducible show wpAny _ _ (eval (PySem.Expr.Attribute (PySem.Expr.Name _ _) _ _) _) _ _ _);k_dflt (refine' no_implicit_lambda% (at_own ?O ?F ?X ?N ?hm ?m1 ?m2 ?hl ?hv ?_);(case F=>k_asm);(case X=>k_in);(case N=>k_asm);(case hm=>exact rfl);(case m1 | m2=>k_mem);(case hl=>exact rfl);(case hv=>k_handed);(case O=>first | exact ow1 _ | exact ow5 _ | exact ow6 _ | exact ow2 _ | exact ow3 _ | exact ow4 _ | exact ⟨by k_is,by k_is,_,by k_is,by k_is⟩)))|walk1|(refine StD.nx (by with_reducible assumption) _ ?_)|(refine StD.rt (by with_reducible assumption) _ _ ?_)|(refine Ups.up (by with_reducible assumption) _ _ ?_;(try dsimp only))|(k_end;wrow_close)|dsimp only|(leave1;try dsimp only))
  rename AllLt _ _=>l9
  exact fin_list (by assumption) (by assumption) hn9 l9 hO' ⟨_,_,_,_,rfl,.head _,n4.up fun q hq=>.tail _ hq⟩
theorem parted_okT (w : World) {ex : Led} {tx : Str} {u : Tok} {dv : Value} {n : Nat} {T1 T2 : Tr} {j : Int} {yh yh2 : String × Bool} (hyh : hdT T1 = some yh) (hyh2 : hdT T2 = some yh2) (S : ∀ u2,Sat w 899 n [.str tx u,.int 2 u2,dv] ex (RO ex (fun tl r=>PatT tl T1 T2 j r))) : Sat w 948 (n + 10) [.str tx u,dv] ex (RO ex (fun tl r=>PartT tl T1 T2 j r)):=by
  refine' sat_of (binds:=[(Str.ofString "page",.str tx u),(Str.ofString "known",dv)]) ?ho ?hcd ?hn ?hbind ?hloc ?h ?hcell ?hco ?hgen ?hk
  (case ho=>k_is);(case hcd=>k_is);(case hn=>first | decide | lia);(case hbind=>intro s X;first | exact BindsTo.of_eq rfl | exact binds_K X rfl (by k_is) rfl rfl rfl);(case hloc=>exact locs rfl)
  (case hcell=>decide);(case hco=>rfl);(case hgen=>rfl);(case hk=>rfl)
  intro p loose mean mg mb dp un gd cn cs a ccd cl outer base g L L' h₁ s F' N' B' X' T' hd hu
  repeat' ((fail_if_success (with_reducible show wpAny _ _ (call (Value.ref 899) _) _ _ _));first|(k_unfold;(try dsimp only))|walk1|(refine StD.nx (by with_reducible assumption) _ ?_)|(refine StD.rt (by with_reducible assumption) _ _ ?_)|(refine Ups.up (by with_reducible assumption) _ _ ?_;(try dsimp only))|(k_end;wrow_close)|(dsimp only;walk1)|(leave1;try dsimp only))
  k_dflt (refine' use_ron (S _) ?hs ?B ?F ?X ?N ?T ?kk ?dd ?uu ?_;tb_rel;(case hs=>lcg_sub))
  intro r9' tl9' h' tk' F9 N9 hV' hO'
  clear F' N'
  refine gen fun G hG=>?_
  obtain ⟨tp,pa,pd,t,h1,t1,h2,t2,h3,t3,b,c,rfl,m1,m2,m3,n4,n5⟩:=hV'
  obtain ⟨b9,rfl⟩:=ref_of hyh n4
  obtain ⟨c9,rfl⟩:=ref_of hyh2 n5
  refine hG ?_;clear hG
  replace m1:=List.mem_append_right ex m1
  replace m2:=List.mem_append_right ex m2
  replace m3:=List.mem_append_right ex m3
  generalize hn9 : ex ++ tl9' = n9 at N9 m1 m2 m3
  repeat' (first|(k_unfold;(try dsimp only))|(k_here;(with_reducible show wpAny _ _ (eval (PySem.Expr.Attribute (PySem.Expr.Name _ _) _ _) _) _ _ _);k_dflt (refine' no_implicit_lambda% (at_own ?O ?F ?X ?N ?hm ?m1 ?m2 ?hl ?hv ?_);(case F=>k_asm);(case X=>k_in);(case N=>k_asm);(case hm=>exact rfl);(case m1 | m2=>k_mem);(case hl=>exact rfl);(case hv=>k_handed);(case O=>first | exact ow1 _ | exact ow5 _ | exact ow6 _ | exact ow2 _ | exact ow3 _ | exact ow4 _ | exact ⟨by k_is,by k_is,_,by k_is,by k_is⟩)))|walk1|(refine StD.nx (by with_reducible assumption) _ ?_)|(refine StD.rt (by with_reducible assumption) _ _ ?_)|(refine Ups.up (by with_reducible assumption) _ _ ?_;(try dsimp only))|(k_end;wrow_close)|dsimp only|(leave1;try dsimp only))
  rename AllLt _ _=>l9
  exact fin_list (by assumption) (by assumption) hn9 l9 hO' ⟨_,_,_,_,_,rfl,.head _,n4.up fun q hq=>.tail _ hq,n5.up fun q hq=>.tail _ hq⟩
set_option maxHeartbeats 2000000
theorem use_satT {w : World} {f : Addr} {n : Nat} {vs : List Value} {own news : Led} {V : Value → Prop} {p : Program} {loose : List Str} {mean : ExcName → Option Value} {mg mb : Str → Option Value} {dp un : Nat} {gd : Option (List Code)} {cn : Str} {cs : Scope} {a : Addr} {ccd : Value} {cl : List (Str × Addr)} {outer : List Env} {A₀ : Around} {base h₀ : Heap} {L : Addr} {m : Str → Option Value} {s : Shared} {Q E : Value → Shared → Prop}
    (S : SatT w f n vs own (fun r own'=>V r ∧ own' = own)) (hs : ∀ q ∈ own,q ∈ news) (B : Below A₀ base outer h₀) (F : Fr h₀ L s.heap m) (X : (KF w.params).In h₀) (N : News h₀ L s.heap news) (T : Top p loose mean mg mb h₀) (hk : cs.kind = .function) (hd : dp + n < recursionLimit) (hu : un + 8 * n < cLine) (XB : (KF w.params).In base) (TB : Top p loose mean mg mb base)
    (ret : ∀ r h' tk' h₁,KtsTurn (frs outer) h₀ h₁ → Below A₀ base outer h₁ → Fr h₁ L h' m → (KF w.params).In h₁ → News h₁ L h' news → Top p loose mean mg mb h₁ → V r → Q r { s with heap:=h',toks:=tk' }) :
    wpAny (model PR w) (ktrTop dp un gd cn cs L a ccd cl outer) (call (.ref f) vs) Q E s:=by
  refine S p loose mean mg mb dp un gd cn cs a ccd cl outer A₀ base h₀ L m s Q E B F X (fun q hq=>N q (hs q hq)) T hk hd hu XB TB fun r own' h' tk' h₁ T' B' F' X' N' P' keep _ hV=>?_
  obtain ⟨hV,rfl⟩:=hV
  refine ret r h' tk' h₁ T' B' F' X' (fun q hq=>?_) P' hV
  by_cases hm : q.1 ∈ own'.map (·.1)
  · obtain ⟨q',hq',e⟩:=List.mem_map.mp hm
    have x1:=(N q hq).1
    have x2:=(N q' (hs q' hq')).1
    rw [e] at x2
    have : q = q':=Prod.ext e.symm (Option.some.inj (x1.symm.trans x2))
    exact this ▸ N' q' hq'
  · refine ⟨keep _ _ (N q hq).1 hm fun hf=>?_,(N q hq).2.1,T'.none_ _ (N q hq).2.2⟩
    rcases frs_mem rfl hf with z | z
    · exact (N q hq).2.1 z
    · exact not_fr B.frames (N q hq).2.2 z
abbrev tL (l : List Nat) : Str:=⟨l.toArray⟩
theorem tL_add (a b : List Nat) : tL a ++ tL b = tL (a ++ b):=by
  show Str.mk (a.toArray ++ b.toArray) = Str.mk (a ++ b).toArray
  rw [List.append_toArray]
theorem tL_len (a : List Nat) : (tL a).length = a.length:=rfl
theorem add_L {prog : Program} {w : World} {A : Around} {E : Value → Shared → Prop} {s : Shared} {x y : Str} {a b : List Nat} {t u : Tok} {Q : Value → Shared → Prop} (hx : x = tL a) (hy : y = tL b) (hs : a.length + b.length ≤ 1000000) (h : ∀ t' k,Q (.str (tL (a ++ b)) t') { s with toks:=k }) :
    wpAny (model prog w) A (binaryOp .Add (.str x t) (.str y u)) Q E s:=by
  subst hx hy
  exact PyProof.Rows.add_str (fun t' k=>tL_add a b ▸ h t' k) (by rw [tL_len,tL_len,sizeLine_eq];lia)
theorem lit1 : Str.ofString "q " = tL [113,32]:=by decide +kernel
theorem lit2 : Str.ofString " q" = tL [32,113]:=by decide +kernel
theorem lit3 : Str.ofString "q x/" = tL [113,32,120,47]:=by decide +kernel
theorem ip_no (w : World) {ex : Led} {l : List Nat} {u : Tok} {dv : Value} {n : Nat} (hl : l.length ≤ 900) (S : ∀ u,SatT w 948 n [.str (tL (([113,32] ++ l) ++ [32,113])) u,dv] ex (fun r own'=>(∃ t,r = .int 2 t) ∧ own' = ex)) :
    SatT w 962 (n + 10) [.str (tL l) u,dv,.bool false,.none] ex (fun r own'=>r = .bool true ∧ own' = ex):=by
  refine' satT_of (binds:=[(Str.ofString "page",.str (tL l) u),(Str.ofString "known",dv),(Str.ofString "is_trail",.bool false),(Str.ofString "due",.none)]) ?ho ?hcd ?hn ?hbind ?hloc ?h ?hcell ?hco ?hgen ?hk
  (case ho=>k_is);(case hcd=>k_is);(case hn=>first | decide | lia);(case hbind=>intro s X;first | exact BindsTo.of_eq rfl | exact binds_K X rfl (by k_is) rfl rfl rfl);(case hloc=>exact locs rfl)
  (case hcell=>decide);(case hco=>rfl);(case hgen=>rfl);(case hk=>rfl)
  intro p loose mean mg mb dp un gd cn cs a ccd cl outer base g L L' h₁ s F' N' B' X' T' hd hu XB TB
  repeat' ((fail_if_success (with_reducible show wpAny _ _ (call (Value.ref 948) _) _ _ _));first|(k_unfold;(try dsimp only))|(k_here;(with_reducible show wpAny _ _ (binaryOp Operator.Add (Value.str _ _) (Value.str _ _)) _ _ _);k_dflt (refine' no_implicit_lambda% (add_L ?hx ?hy ?hs ?_);(case hx=>with_reducible first | exact lit1 | exact lit2 | exact lit3 | assumption | exact rfl);(case hy=>with_reducible first | exact lit1 | exact lit2 | exact lit3 | assumption | exact rfl);(case hs=>((try simp only [List.length_append,List.length_cons,List.length_nil,List.length_replicate]);lia)));intro qt' qk')|walk1|(refine StD.nx (by with_reducible assumption) _ ?_)|(refine StD.rt (by with_reducible assumption) _ _ ?_)|(refine Ups.up (by with_reducible assumption) _ _ ?_;(try dsimp only))|(k_end;wrow_close)|dsimp only|(leave1;try dsimp only))
  k_dflt (refine' use_satT (S _) ?hs ?B ?F ?X ?N ?T ?kk ?dd ?uu XB TB ?_;tb_rel;(case hs=>lcg_sub))
  clear F' N' B' X' T'
  intro r h' tk' h₂ T2 B' F' X' N' T' hV'
  refine gen fun G hG=>?_
  obtain ⟨t9,rfl⟩:=hV'
  refine hG ?_;clear hG
  repeat' (first|(k_unfold;(try dsimp only))|walk1|(refine StD.nx (by with_reducible assumption) _ ?_)|(refine StD.rt (by with_reducible assumption) _ _ ?_)|(refine Ups.up (by with_reducible assumption) _ _ ?_;(try dsimp only))|(k_end;wrow_close)|(dsimp only;walk1)|(leave1;try dsimp only))
  exact done_t T2 (by assumption) (by assumption) (by lcg_sub) ⟨rfl,rfl⟩
theorem ip_noT (w : World) {ex : Led} {l : List Nat} {u : Tok} {dv : Value} {n : Nat} (hl : l.length ≤ 900) (S : ∀ u,SatT w 948 n [.str (tL (([113,32,120,47] ++ l) ++ [32,113])) u,dv] ex (fun r own'=>(∃ t,r = .int 2 t) ∧ own' = ex)) :
    SatT w 962 (n + 10) [.str (tL l) u,dv,.bool true,.none] ex (fun r own'=>r = .bool true ∧ own' = ex):=by
  refine' satT_of (binds:=[(Str.ofString "page",.str (tL l) u),(Str.ofString "known",dv),(Str.ofString "is_trail",.bool true),(Str.ofString "due",.none)]) ?ho ?hcd ?hn ?hbind ?hloc ?h ?hcell ?hco ?hgen ?hk
  (case ho=>k_is);(case hcd=>k_is);(case hn=>first | decide | lia);(case hbind=>intro s X;first | exact BindsTo.of_eq rfl | exact binds_K X rfl (by k_is) rfl rfl rfl);(case hloc=>exact locs rfl)
  (case hcell=>decide);(case hco=>rfl);(case hgen=>rfl);(case hk=>rfl)
  intro p loose mean mg mb dp un gd cn cs a ccd cl outer base g L L' h₁ s F' N' B' X' T' hd hu XB TB
  repeat' ((fail_if_success (with_reducible show wpAny _ _ (call (Value.ref 948) _) _ _ _));first|(k_unfold;(try dsimp only))|(k_here;(with_reducible show wpAny _ _ (binaryOp Operator.Add (Value.str _ _) (Value.str _ _)) _ _ _);k_dflt (refine' no_implicit_lambda% (add_L ?hx ?hy ?hs ?_);(case hx=>with_reducible first | exact lit1 | exact lit2 | exact lit3 | assumption | exact rfl);(case hy=>with_reducible first | exact lit1 | exact lit2 | exact lit3 | assumption | exact rfl);(case hs=>((try simp only [List.length_append,List.length_cons,List.length_nil,List.length_replicate]);lia)));intro qt' qk')|walk1|(refine StD.nx (by with_reducible assumption) _ ?_)|(refine StD.rt (by with_reducible assumption) _ _ ?_)|(refine Ups.up (by with_reducible assumption) _ _ ?_;(try dsimp only))|(k_end;wrow_close)|dsimp only|(leave1;try dsimp only))
  k_dflt (refine' use_satT (S _) ?hs ?B ?F ?X ?N ?T ?kk ?dd ?uu XB TB ?_;tb_rel;(case hs=>lcg_sub))
  clear F' N' B' X' T'
  intro r h' tk' h₂ T2 B' F' X' N' T' hV'
  refine gen fun G hG=>?_
  obtain ⟨t9,rfl⟩:=hV'
  refine hG ?_;clear hG
  repeat' (first|(k_unfold;(try dsimp only))|walk1|(refine StD.nx (by with_reducible assumption) _ ?_)|(refine StD.rt (by with_reducible assumption) _ _ ?_)|(refine Ups.up (by with_reducible assumption) _ _ ?_;(try dsimp only))|(k_end;wrow_close)|(dsimp only;walk1)|(leave1;try dsimp only))
  exact done_t T2 (by assumption) (by assumption) (by lcg_sub) ⟨rfl,rfl⟩
set_option maxHeartbeats 2000000
def nthV : List Value → Nat → Option Value
  | [],_=>none
  | x :: _,0=>some x
  | _ :: r,n + 1=>nthV r n
theorem nthV_eq : ∀ (l : List Value) (n : Nat),nthV l n = l[n]?
  | [],_=>by simp [nthV]
  | x :: _,0=>by simp [nthV]
  | _ :: r,n + 1=>by simp [nthV,nthV_eq r n]
theorem item_mem {prog : Program} {w : World} {A : Around} {E : Value → Shared → Prop} {s : Shared} {h₀ : Heap} {L l : Addr} {news : Led} {value slice : PySem.Expr} {xs : List Value} {e : Nat} {k : Int} {u : Tok} {v : Value} {Q : Value → Shared → Prop}
    (N : News h₀ L s.heap news) (hm : (l,W.listOf xs.toArray e) ∈ news) (h0 : 0 ≤ k) (hhi : k < 2 ^ 63) (hx : nthV xs k.toNat = some v) (h : Q v s)
    (hs : subscripted slice false (.ref l) (.int k u) = operate [.ref l,.int k u] (getItem (.ref l) (.int k u)):=by with_unfolding_all rfl) :
    wpAny (model prog w) A (subscriptTail value slice (.ref l) (.int k u)) Q E s :=
  have hl : s.heap.IsList l xs.toArray:=⟨_,(N _ hm).1,rfl,e,rfl⟩
  tail_any hl.typeIs slot_list_getitem.lookup (wpAny_getItem_list hl h0 hhi (by rw [List.getElem?_toArray,← nthV_eq];exact hx) h) hs
theorem fin_true {ex news : Led} {g h' : Heap} {s : Shared} {L' : Addr} {m' : Str → Option Value} {v : Value} {tk' : Nat} (F : Fr g L' h' m') (N : News g L' h' news) (hs : ∀ q ∈ ex,q ∈ news) (e : v = .bool true) : Done g s (RO ex (fun tl r=>r = .bool true)) v { s with heap:=h',toks:=tk' } :=
  fin_ro F N [] (by rw [List.append_nil];exact hs) .nil' e
def PartF (ex tl : Led) (T : Tr) (j : Int) (r : Value) : Prop:=∃ l e b t,r = .ref l ∧ (l,W.listOf #[.bool false,b,.none,.int j t] e) ∈ tl ∧ NodeIn (ex ++ tl) T b
def PartTF (ex tl : Led) (T : Tr) (j : Int) (r : Value) : Prop:=∃ l e b c t,r = .ref l ∧ (l,W.listOf #[.bool false,b,c,.int j t] e) ∈ tl ∧ NodeIn tl (.chars 120) b ∧ NodeIn (ex ++ tl) T c
section
variable (w : World) {ex : Led} {l : List Nat} {u : Tok} {dv : Value} {n : Nat} {du ly td : Addr} {e1 e : Nat} {vs : List Value} {ns : List Int} {T0 : Tr} {D : Dat}
theorem ip_ok (hl : l.length ≤ 900) (hB : BaseT T0 D) (hdu : (du,W.listOf #[.ref ly,.ref td] e1) ∈ ex) (hly : (ly,W.listOf vs.toArray e) ∈ ex) (hi : IntsAre vs ns) (hr : ∀ k ∈ ns,0 ≤ k ∧ k ≤ 3) (hz : ns.length ≤ 200) (hD : DatIn ex (.ref td) D) (hn : 40 ≤ n)
    (S : ∀ u,Sat w 948 n [.str (tL (([113,32] ++ l) ++ [32,113])) u,dv] ex (RO ex (fun tl r=>PartF ex tl (treeR T0 ns.reverse) (2 + ((tL l).length : Int)) r))) :
    Sat w 962 (n + 10) [.str (tL l) u,dv,.bool false,.ref du] ex (RO ex (fun tl r=>r = .bool true)):=by
  refine' sat_of (binds:=[(Str.ofString "page",.str (tL l) u),(Str.ofString "known",dv),(Str.ofString "is_trail",.bool false),(Str.ofString "due",.ref du)]) ?ho ?hcd ?hn ?hbind ?hloc ?h ?hcell ?hco ?hgen ?hk
  (case ho=>k_is);(case hcd=>k_is);(case hn=>first | decide | lia);(case hbind=>intro s X;first | exact BindsTo.of_eq rfl | exact binds_K X rfl (by k_is) rfl rfl rfl);(case hloc=>exact locs rfl)
  (case hcell=>decide);(case hco=>rfl);(case hgen=>rfl);(case hk=>rfl)
  intro p loose mean mg mb dp un gd cn cs a ccd cl outer base g L L' h₁ s F' N' B' X' T' hd hu
  repeat' ((fail_if_success (with_reducible show wpAny _ _ (call (Value.ref 948) _) _ _ _));first|(k_unfold;(try dsimp only))|(k_here;(with_reducible show wpAny _ _ (binaryOp Operator.Add (Value.str _ _) (Value.str _ _)) _ _ _);k_dflt (refine' no_implicit_lambda% (add_L ?hx ?hy ?hs ?_);(case hx=>with_reducible first | exact lit1 | exact lit2 | exact lit3 | assumption | exact rfl);(case hy=>with_reducible first | exact lit1 | exact lit2 | exact lit3 | assumption | exact rfl);(case hs=>((try simp only [List.length_append,List.length_cons,List.length_nil,List.length_replicate]);lia)));intro qt' qk')|walk1|(refine StD.nx (by with_reducible assumption) _ ?_)|(refine StD.rt (by with_reducible assumption) _ _ ?_)|(refine Ups.up (by with_reducible assumption) _ _ ?_;(try dsimp only))|(k_end;wrow_close)|dsimp only|(leave1;try dsimp only))
  k_dflt (refine' use_ron (S _) ?hs ?B ?F ?X ?N ?T ?kk ?dd ?uu ?_;tb_rel;(case hs=>lcg_sub))
  intro r9' tl9' h' tk' F9 N9 hV' hO'
  clear F' N'
  refine gen fun G hG=>?_
  obtain ⟨l9,e9,b,t9,rfl,m1,nb⟩:=hV'
  obtain ⟨yh,hyh⟩:=hd_treeR hB.hd ns.reverse
  obtain ⟨b9,rfl⟩:=ref_of hyh nb
  refine hG ?_;clear hG
  have hlz : ((tL l).length : Int) ≤ 900:=by rw [tL_len];lia
  have h955:=is_so w (ex ++ tl9') hB nb (List.mem_append_left tl9' hly) hi hr hz (DatIn.mono (fun q hq=>List.mem_append_left _ hq) hD)
  replace m1:=List.mem_append_right ex m1
  have m2:=List.mem_append_left tl9' hdu
  have hs9 : ∀ q ∈ ex,q ∈ ex ++ tl9':=fun q hq=>List.mem_append_left _ hq
  generalize hn9 : ex ++ tl9' = n9 at N9 m1 m2 h955 hs9
  repeat' (first|(k_unfold;(try dsimp only))|(k_here;(with_reducible show wpAny _ _ (subscriptTail _ _ (Value.ref _) (Value.int _ _)) _ _ _);k_dflt (refine' no_implicit_lambda% (item_mem ?N ?hm ?h0 ?h1 ?hx ?_);(case N=>k_asm);(case hm=>first | assumption | k_memK);(case h0=>decide);(case h1=>decide);(case hx=>rfl)))|(k_here;(with_reducible show wpAny _ _ (call (Value.ref 955) _) _ _ _);k_dflt (refine' no_implicit_lambda% (use_ronT (‹Sat _ 955 30 [_,_,_] _ (RO _ _)›) ?hs ?B ?F ?X ?N ?T ?kk ?dd ?uu ?_);tb_rel;(case hs=>lcg_sub));intro qh' qtk' qF' qN';(try k_sweep))|walk1|(refine StD.nx (by with_reducible assumption) _ ?_)|(refine StD.rt (by with_reducible assumption) _ _ ?_)|(refine Ups.up (by with_reducible assumption) _ _ ?_;(try dsimp only))|(k_end;wrow_close)|dsimp only|(leave1;try dsimp only))
  · exact fin_true (by assumption) (by assumption) (sub_trans hs9 (by lcg_sub)) rfl
  · exact fin_true (by assumption) (by assumption) (sub_trans hs9 (by lcg_sub)) (congrArg Value.bool (beq_self_eq_true _))
theorem ip_okT (hl : l.length ≤ 900) (hB : BaseT T0 D) (hdu : (du,W.listOf #[.ref ly,.ref td] e1) ∈ ex) (hly : (ly,W.listOf vs.toArray e) ∈ ex) (hi : IntsAre vs ns) (hr : ∀ k ∈ ns,0 ≤ k ∧ k ≤ 3) (hz : ns.length ≤ 200) (hD : DatIn ex (.ref td) D) (hn : 40 ≤ n)
    (S : ∀ u,Sat w 948 n [.str (tL (([113,32,120,47] ++ l) ++ [32,113])) u,dv] ex (RO ex (fun tl r=>PartTF ex tl (treeR T0 ns.reverse) (4 + ((tL l).length : Int)) r))) :
    Sat w 962 (n + 10) [.str (tL l) u,dv,.bool true,.ref du] ex (RO ex (fun tl r=>r = .bool true)):=by
  refine' sat_of (binds:=[(Str.ofString "page",.str (tL l) u),(Str.ofString "known",dv),(Str.ofString "is_trail",.bool true),(Str.ofString "due",.ref du)]) ?ho ?hcd ?hn ?hbind ?hloc ?h ?hcell ?hco ?hgen ?hk
  (case ho=>k_is);(case hcd=>k_is);(case hn=>first | decide | lia);(case hbind=>intro s X;first | exact BindsTo.of_eq rfl | exact binds_K X rfl (by k_is) rfl rfl rfl);(case hloc=>exact locs rfl)
  (case hcell=>decide);(case hco=>rfl);(case hgen=>rfl);(case hk=>rfl)
  intro p loose mean mg mb dp un gd cn cs a ccd cl outer base g L L' h₁ s F' N' B' X' T' hd hu
  repeat' ((fail_if_success (with_reducible show wpAny _ _ (call (Value.ref 948) _) _ _ _));first|(k_unfold;(try dsimp only))|(k_here;(with_reducible show wpAny _ _ (binaryOp Operator.Add (Value.str _ _) (Value.str _ _)) _ _ _);k_dflt (refine' no_implicit_lambda% (add_L ?hx ?hy ?hs ?_);(case hx=>with_reducible first | exact lit1 | exact lit2 | exact lit3 | assumption | exact rfl);(case hy=>with_reducible first | exact lit1 | exact lit2 | exact lit3 | assumption | exact rfl);(case hs=>((try simp only [List.length_append,List.length_cons,List.length_nil,List.length_replicate]);lia)));intro qt' qk')|walk1|(refine StD.nx (by with_reducible assumption) _ ?_)|(refine StD.rt (by with_reducible assumption) _ _ ?_)|(refine Ups.up (by with_reducible assumption) _ _ ?_;(try dsimp only))|(k_end;wrow_close)|dsimp only|(leave1;try dsimp only))
  k_dflt (refine' use_ron (S _) ?hs ?B ?F ?X ?N ?T ?kk ?dd ?uu ?_;tb_rel;(case hs=>lcg_sub))
  intro r9' tl9' h' tk' F9 N9 hV' hO'
  clear F' N'
  refine gen fun G hG=>?_
  obtain ⟨l9,e9,b,c,t9,rfl,m1,nb,nc⟩:=hV'
  obtain ⟨yh,hyh⟩:=hd_treeR hB.hd ns.reverse
  obtain ⟨c9,rfl⟩:=ref_of hyh nc
  replace nb : ChrIn tl9' b 120:=nb
  obtain ⟨b9,rfl⟩ : ∃ b9,b = .ref b9:=by
    obtain ⟨a,d,h1,u,cs,e,_⟩:=nb
    exact ⟨a,e⟩
  have hlz : ((tL l).length : Int) ≤ 900:=by rw [tL_len];lia
  have h955:=is_so w (ex ++ tl9') hB nc (List.mem_append_left tl9' hly) hi hr hz (DatIn.mono (fun q hq=>List.mem_append_left _ hq) hD)
  have nb9 : ChrIn (ex ++ tl9') (.ref b9) 120:=NodeIn.up (T:=.chars 120) (fun q hq=>List.mem_append_right _ hq) nb
  replace m1:=List.mem_append_right ex m1
  have m2:=List.mem_append_left tl9' hdu
  have hs9 : ∀ q ∈ ex,q ∈ ex ++ tl9':=fun q hq=>List.mem_append_left _ hq
  generalize hn9 : ex ++ tl9' = n9 at N9 m1 m2 h955 hs9 nb9
  clear nb nc
  obtain ⟨c1,d3,h5,u5,cs1,e5,m5,m6,_⟩:=id nb9
  cases e5
  refine hG ?_;clear hG
  repeat' (first|(k_unfold;(try dsimp only))|(k_here;(with_reducible show wpAny _ _ (subscriptTail _ _ (Value.ref _) (Value.int _ _)) _ _ _);k_dflt (refine' no_implicit_lambda% (item_mem ?N ?hm ?h0 ?h1 ?hx ?_);(case N=>k_asm);(case hm=>first | assumption | k_memK);(case h0=>decide);(case h1=>decide);(case hx=>rfl)))|((with_reducible show wpAny _ _ (call _ _) _ _ _);first|(k_here;(with_reducible show wpAny _ _ (call (Value.ref 955) _) _ _ _);k_dflt (refine' no_implicit_lambda% (use_ronT (‹Sat _ 955 30 [_,_,_] _ (RO _ _)›) ?hs ?B ?F ?X ?N ?T ?kk ?dd ?uu ?_);tb_rel;(case hs=>lcg_sub));intro qh' qtk' qF' qN';(try k_sweep))|(k_here;(with_reducible show wpAny _ _ (call (Value.ref 920) [Value.str (PySem.Str.ofString "x") _]) _ _ _);k_dflt (refine' no_implicit_lambda% (use_newV (fun _ _ h=>dat_ref h) (sign_x _ _) ?B ?F ?X ?N ?T ?kk ?dd ?uu ?_);tb_rel);intro qq9' qtl9' qh' qtk' qF' qN' qhV' qhO';(try simp only [List.cons_append,List.nil_append,List.append_assoc] at qN');(try k_sweep))|(k_here;(with_reducible show wpAny _ _ (call (Value.ref 512) _) _ _ _);k_dflt (refine' no_implicit_lambda% (use_ronV (fun _ _ h=>dat_ref h) (told_chars _ _ (‹ChrIn _ (.ref _) _›)) ?hs ?B ?F ?X ?N ?T ?kk ?dd ?uu ?_);tb_rel;(case hs=>lcg_sub));intro qq9' qtl9' qh' qtk' qF' qN' qhV' qhO';(try simp only [List.cons_append,List.nil_append,List.append_assoc] at qN');(try k_sweep)))|(k_here;(with_reducible show wpAny _ _ (compareOp CmpOp.Eq (Value.ref _) (Value.ref _)) _ _ _);k_dflt (refine' no_implicit_lambda% (eq_dat1 ?N ?Da ?sa ?Db ?sb ?ha ?hu ?_);(case N=>k_asm);(case Da=>assumption);(case Db=>assumption);(case sa=>lcg_sub);(case sb=>lcg_sub);(case ha=>first | rfl | decide +kernel);(case hu=>ke_room)))|walk1|(refine StD.nx (by with_reducible assumption) _ ?_)|(refine StD.rt (by with_reducible assumption) _ _ ?_)|(refine Ups.up (by with_reducible assumption) _ _ ?_;(try dsimp only))|(k_end;wrow_close)|dsimp only|(leave1;try dsimp only))
  · exact fin_true (by assumption) (by assumption) (sub_trans hs9 (by lcg_sub)) rfl
  · exact fin_true (by assumption) (by assumption) (sub_trans hs9 (by lcg_sub)) (congrArg Value.bool (beq_self_eq_true _))
end
set_option maxHeartbeats 2000000
def SatH (w : World) (f : Addr) (n : Nat) (vs : List Value) (own : Led) (H : Heap → Prop) (Post : Value → Led → Prop) : Prop :=
  ∀ (p : Program) (loose : List Str) (mean : ExcName → Option Value) (mg mb : Str → Option Value) (dp un : Nat) (gd : Option (List Code)) (cn : Str) (cs : Scope) (a : Addr) (ccd : Value) (cl : List (Str × Addr)) (outer : List Env) (A₀ : Around) (base h₀ : Heap) (L : Addr) (m : Str → Option Value) (s : Shared) (Q E : Value → Shared → Prop),
    Below A₀ base outer h₀ → Fr h₀ L s.heap m → (KF w.params).In h₀ → News h₀ L s.heap own → Top p loose mean mg mb h₀ → cs.kind = .function → dp + n < recursionLimit → un + 8 * n < cLine → H h₀ →
    (∀ r own' h' tk',Fr h₀ L h' m → News h₀ L h' own' → (∀ b o,s.heap.get? b = some o → b ∉ own.map (·.1) → h'.get? b = some o) → (∀ q ∈ own',q.1 ∉ own.map (·.1) → s.heap.get? q.1 = none) → Post r own' →
      Q r { s with heap:=h',toks:=tk' }) →
    wpAny (model PR w) (ktrTop dp un gd cn cs L a ccd cl outer) (call (.ref f) vs) Q E s
theorem satH_of {w : World} {f : Addr} {n : Nat} {vs : List Value} {own : Led} {H : Heap → Prop} {Post : Value → Led → Prop} {name qual : Str} {params : Arguments} {body : List Stmt} {scope : Scope} {dV kV doc pm cdv ct oc : Value} {an od : Option Addr} {osl : Array (Option Value)} {binds : List (Str × Value)}
    (hH : ∀ h h' : Heap,h.StaysIn h' → H h → H h')
    (ho : (KF w.params).lookup f = some ⟨oc,od,.func (fnOf name qual params body scope dV kV doc pm an cdv ct),osl⟩) (hcd : codeIn (KF w.params) cdv qual = true) (hn : 1 ≤ n)
    (hbind : ∀ s : Shared,(KF w.params).In s.heap → BindsTo s (fnOf name qual params body scope dV kV doc pm an cdv ct) ⟨vs,[]⟩ binds) (hloc : ∀ y ∈ binds,scope.names.lookup y.1 = some .local)
    (h : ∀ (p : Program) (loose : List Str) (mean : ExcName → Option Value) (mg mb : Str → Option Value) (dp un : Nat) (gd : Option (List Code)) (cn : Str) (cs : Scope) (a : Addr) (ccd : Value) (cl : List (Str × Addr)) (outer : List Env) (base g : Heap) (L L' : Addr) (h₁ : Heap) (s : Shared),
      H g → Fr g L' h₁ (fun y=>binds.reverse.lookup y) → News g L' h₁ own → Below (ktrTop dp un gd cn cs L a ccd cl outer) base (envX cn cs L a ccd cl :: outer) g → (KF w.params).In g → Top p loose mean mg mb g → dp + n < recursionLimit → un + 8 * n < cLine →
      wpAny (model PR w) ((ktrTop dp un gd cn cs L a ccd cl outer).deeper (envOf qual scope L' f cdv)) (execs body (envOf qual scope L' f cdv))
        (fun fl s'=>Done g s Post (match fl with | .ret v=>v | _=>.none) s') (fun _ _=>False) { s with heap:=h₁,toks:=s.toks + binds.length })
    (hcell : ∀ x ∈ scope.names,x.2 ≠ .cell) (hco : scope.isCoroutine = false) (hgen : scope.isGenerator = false) (hk : scope.kind = .function) : SatH w f n vs own H Post:=by
  intro p loose mean mg mb dp un gd cn cs a ccd cl outer A₀ base h₀ L m s Q E B F X N T hck hd hu hh ret
  refine wpAny_call ?_
  obtain ⟨FG,BG,st,_⟩:=groundX (A:=ktrTop dp un gd cn cs L a ccd cl outer) (R:=fun _ _=>True) B F N rfl rfl hck
  refine codeAny_call_def (fd:=fnOf name qual params body scope dV kV doc pm an cdv ct) (body:=body) (binds:=binds) (by show dp < recursionLimit;lia) ((X.keeps F.keep) _ _ ho) rfl (T.nolimit.keeps F.keep) (codeRec_of (X.keeps F.keep) hcd) rfl (hbind s (X.keeps F.keep)) hcell hloc (fun h₁ hns hk₁=>?_) hco hgen hk
  refine wpAny_mono (h p loose mean mg mb dp un gd cn cs a ccd cl outer base _ L s.heap.objs.size h₁ s (hH _ _ st hh) ⟨hns,fun b o e=>hk₁ b o (of_hideAll _ e),Nat.le_of_eq (hideAll_size _ _)⟩
    (fun q hq=>⟨hk₁ _ _ (N q hq).1,Nat.ne_of_lt (Heap.lt_size (N q hq).1),hideAll_none _ (List.mem_map_of_mem hq)⟩) BG (X.keeps st) (T.keeps st) hd hu) (fun fl s' hl=>?_) fun _ _ y=>y.elim
  obtain ⟨L',m',own',h',tk',rfl,F',N',hP⟩:=hl
  obtain ⟨oL,es,ep,hL,hLd,hLk,hLf⟩:=FG.ns
  refine ret _ own' h' tk' ⟨⟨oL,es,ep,F'.keep L oL hL,hLd,hLk,hLf⟩,fun b o e=>F'.keep b o (st b o e),F.above⟩ (fun q hq=>⟨(N' q hq).1,fun z=>?_,?_⟩) (fun b o e nb=>F'.keep b o (hideAll_get _ e nb)) (fun q hq nb=>?_) hP
  · have:=(N' q hq).2.2;rw [z,hL] at this;cases this
  · cases z : h₀.get? q.1 with
    | none=>rfl
    | some o=>have:=(N' q hq).2.2;rw [st _ _ z] at this;cases this
  · cases z : s.heap.get? q.1 with
    | none=>rfl
    | some o=>have:=(N' q hq).2.2;rw [hideAll_get _ z nb] at this;cases this
abbrev pailM (N : Int) (t : Tok) (c : Option Value) (m0 : Str → Option Value) : Str → Option Value:=fun y=>if y = Str.ofString "number" then some (.int N t) else if y = Str.ofString "cell" then c else m0 y
def PailJ (m0 : Str → Option Value) (news : Led) (m' : Str → Option Value) (nw : Led) : Prop:=nw = news ∧ ∃ N t c,m' = pailM N t c m0 ∧ 0 ≤ N
theorem pailM_start (N : Int) (t : Tok) (m0 : Str → Option Value) : (fun y=>if y = Str.ofString "number" then some (.int N t) else m0 y) = pailM N t (m0 (Str.ofString "cell")) m0:=by
  funext y
  by_cases h : y = Str.ofString "cell"
  · subst h;rfl
  · simp [pailM,h]
theorem pailM_1 (N N' : Int) (t t' : Tok) (v : Value) (c : Option Value) (m0 : Str → Option Value) : (fun y=>if y = Str.ofString "number" then some (.int N' t') else if y = Str.ofString "cell" then some v else pailM N t c m0 y) = pailM N' t' (some v) m0:=by
  funext y
  by_cases h1 : y = Str.ofString "number"
  · simp only [pailM,if_pos h1]
  · by_cases h2 : y = Str.ofString "cell"
    · simp only [pailM,if_neg h1,if_pos h2]
    · simp only [pailM,if_neg h1,if_neg h2]
theorem pail_loop {prog : Program} {w : World} {A : Around} {E : Value → Shared → Prop} {s : Shared} {h₀ : Heap} {env : Env} {news : Led} {body : List Stmt} {Q : Flow → Shared → Prop} {m0 : Str → Option Value} {x : Str} {px : Pos} {ax : Addr} {lo : Obj} {ws : List Value} {n : Nat} {rl : List Int} {N0 : Int} {t0 : Tok}
    (hm : (ax,lo) ∈ news) (hc : lo.cls = .type "list") (hd : lo.data = .seq ws.toArray n) (hh : A.handled = none) (hi : IntsAre ws rl) (h0 : 0 ≤ N0)
    (F : Fr h₀ env.locals s.heap (fun y=>if y = Str.ofString "number" then some (.int N0 t0) else m0 y)) (N : News h₀ env.locals s.heap news)
    (step : ∀ (k : Int) (u t : Tok) (K : Int) c h₁ tk₁ (I : Addr) oI,0 ≤ K → Fr h₀ env.locals h₁ (pailM K t c m0) → News h₀ env.locals h₁ ((I,oI) :: news) → (∀ p ∈ news,p.1 ≠ I) →
      wpAny (model prog w) A (assign (.Name x px) env (.int k u)) (fun _ s₃=>wpAny (model prog w) A (execs body env) (TurnEnd h₀ env.locals I oI (PailJ m0 news) { s with heap:=h₁,toks:=tk₁ } Q) E s₃) E { s with heap:=h₁,toks:=tk₁ })
    (fin : ∀ (K : Int) t c h' tk,0 ≤ K → Fr h₀ env.locals h' (pailM K t c m0) → News h₀ env.locals h' news → Q .next { s with heap:=h',toks:=tk }) :
    wpAny (model prog w) A (pyIter (.ref ax)) (fun it s₂=>TurnsAt prog w A h₀ env (.Name x px) body Q E it s₂) E s:=by
  obtain ⟨hlen,hget⟩:=ints_look hi
  refine list_turns hm hc hd hh F N (fun _=>PailJ m0 news) (fun i m nw h=>by obtain ⟨rfl,_⟩:=h;exact hm) ⟨rfl,N0,t0,_,pailM_start N0 t0 m0,h0⟩ (fun i v m₁ news₁ h₁ tk₁ I oI hv J F₁ N₁ off=>?_) (fun h' tk m' news' F' N' J=>?_)
  · obtain ⟨rfl,K,t,c,rfl,hK⟩:=J
    obtain ⟨k,u,hk,rfl⟩:=hget i v hv
    exact step k u t K c h₁ tk₁ I oI hK F₁ N₁ off
  · obtain ⟨rfl,K,t,c,rfl,hK⟩:=J
    exact fin K t c h' tk hK F' N'
theorem pail_next {h₀ h' : Heap} {L I : Addr} {oI : Obj} {news all : Led} {m0 m' : Str → Option Value} {s₁ : Shared} {Q : Flow → Shared → Prop} {tk : Nat} {K : Int} {t : Tok} {c : Option Value} (F : Fr h₀ L h' m') (N : News h₀ L h' all) (hs : ∀ q ∈ (I,oI) :: news,q ∈ all) (off : ∀ p ∈ news,p.1 ≠ I) (em : m' = pailM K t c m0) (h0 : 0 ≤ K) :
    TurnEnd h₀ L I oI (PailJ m0 news) s₁ Q .next { s₁ with heap:=h',toks:=tk }:=turn_any F N news hs off ⟨rfl,K,t,c,em,h0⟩
theorem pail_sat (w : World) {sl : Addr} {vs : List Value} {ns : List Int} (hi : IntsAre vs ns) (hz : ns.length ≤ 63) :
    SatH w 906 6 [.ref sl] [] (fun h=>h.IsList sl vs.toArray) (fun r own'=>∃ l e N t1 t2,r = .ref l ∧ own' = [(l,W.listOf #[.int N t1,.int 0 t2] e)] ∧ 0 ≤ N):=by
  refine' satH_of (binds:=[(Str.ofString "script",.ref sl)]) ?hH ?ho ?hcd ?hn ?hbind ?hloc ?h ?hcell ?hco ?hgen ?hk
  case hH=>exact fun h h' st ⟨o,ho,r⟩=>⟨o,st _ _ ho,r⟩
  (case ho=>k_is);(case hcd=>k_is);(case hn=>first | decide | lia);(case hbind=>intro s X;first | exact BindsTo.of_eq rfl | exact binds_K X rfl (by k_is) rfl rfl rfl);(case hloc=>exact locs rfl)
  (case hcell=>decide);(case hco=>rfl);(case hgen=>rfl);(case hk=>rfl)
  intro p loose mean mg mb dp un gd cn cs a ccd cl outer base g L L' h₁ s hl F' N' B' X' T' hd hu
  repeat' (first|(k_unfold;(try dsimp only))|(k_here;(with_reducible show wpAny _ _ (exec (Stmt.For (PySem.Expr.Name _ _) (PySem.Expr.Subscript _ _ _) _ _ _) _) _ _ _);(rename Fr _ _ _ _=>qlF');(with_unfolding_all refine' no_implicit_lambda% (For_turns qlF' ?_);k_whole))|walk1|(refine StD.nx (by with_reducible assumption) _ ?_)|(refine StD.rt (by with_reducible assumption) _ _ ?_)|(refine Ups.up (by with_reducible assumption) _ _ ?_;(try dsimp only))|(k_end;wrow_close)|dsimp only|(leave1;try dsimp only))
  rename Fr _ _ _ _=>F9
  rename News _ _ _ _=>N9
  rename IntsAre _ _=>I9
  refine' pail_loop (.head _) rfl rfl (by rfl) I9 (by decide) F9 N9 ?step ?fin
  case step =>
    clear F9 N9
    intro k u t K c h₁ tk₁ I oI hK F₁ N₁ off
    repeat' (first|(k_unfold;(try dsimp only))|walk1|(refine StD.nx (by with_reducible assumption) _ ?_)|(refine StD.rt (by with_reducible assumption) _ _ ?_)|(refine Ups.up (by with_reducible assumption) _ _ ?_;(try dsimp only))|(k_end;wrow_close)|(dsimp only;walk1)|(leave1;try dsimp only))
    refine pail_next (by assumption) (by assumption) (fun q hq=>hq) off (pailM_1 _ _ _ _ _ _ _) ?_
    have hf9 : ∀ z : Int,0 ≤ z.fmod (10 ^ Int.toNat 36):=fun z=>Int.fmod_nonneg_of_pos z (by decide +kernel)
    have hz9:=hf9 (if k < 0 then -k else k)
    generalize (if k < 0 then -k else k).fmod (10 ^ Int.toNat 36) = z9 at hz9 ⊢
    split <;> lia
  case fin =>
    clear F9 N9
    intro K t c h' tk' hK F' N'
    repeat' (first|(k_unfold;(try dsimp only))|walk1|(refine StD.nx (by with_reducible assumption) _ ?_)|(refine StD.rt (by with_reducible assumption) _ _ ?_)|(refine Ups.up (by with_reducible assumption) _ _ ?_;(try dsimp only))|(k_end;wrow_close)|(dsimp only;walk1)|(leave1;try dsimp only))
    rename News _ _ _ _=>N9
    exact done_c (by assumption) N9 ⟨_,_,_,_,_,rfl,rfl,hK⟩ (AllIn.c1 (.head _))
set_option maxHeartbeats 2000000
abbrev pailO (N c : Int) (t1 t2 : Tok) (e : Nat) : Obj:=W.listOf #[.int N t1,.int c t2] e
theorem ladled_sat (w : World) {l : Addr} {N c most : Int} {t1 t2 u : Tok} {e : Nat} (hN : 0 ≤ N) (hc : 0 ≤ c) (hm : 0 < most) (hm2 : most ≤ 100) :
    Sat w 913 4 [.ref l,.int most u] [(l,pailO N c t1 t2 e)] (fun r own'=>∃ d t N' c' t3 t4 e',r = .int d t ∧ own' = [(l,pailO N' c' t3 t4 e')] ∧ 0 ≤ d ∧ d < most ∧ 0 ≤ N' ∧ 0 ≤ c'):=by
  refine' sat_of (binds:=[(Str.ofString "pail",.ref l),(Str.ofString "most",.int most u)]) ?ho ?hcd ?hn ?hbind ?hloc ?h ?hcell ?hco ?hgen ?hk
  (case ho=>k_is);(case hcd=>k_is);(case hn=>first | decide | lia);(case hbind=>intro s X;first | exact BindsTo.of_eq rfl | exact binds_K X rfl (by k_is) rfl rfl rfl);(case hloc=>exact locs rfl)
  (case hcell=>decide);(case hco=>rfl);(case hgen=>rfl);(case hk=>rfl)
  intros
  repeat' (first|(k_unfold;(try dsimp only))|walk1|(refine StD.nx (by with_reducible assumption) _ ?_)|(refine StD.rt (by with_reducible assumption) _ _ ?_)|(refine Ups.up (by with_reducible assumption) _ _ ?_;(try dsimp only))|(k_end;wrow_close)|(dsimp only;walk1)|(leave1;try dsimp only))
  · exact done (by assumption) (by assumption) ⟨_,_,_,_,_,_,_,rfl,rfl,Int.fmod_nonneg_of_pos _ hm,Int.fmod_lt_of_pos _ hm,hN,(show 0 ≤ c + 1 by lia)⟩
  · exact done (by assumption) (by assumption) ⟨_,_,_,_,_,_,_,rfl,rfl,Int.fmod_nonneg_of_pos _ hm,Int.fmod_lt_of_pos _ hm,Int.fdiv_nonneg (show 0 ≤ N from hN) (Int.le_of_lt hm),(show 0 ≤ c + 1 by lia)⟩
set_option maxHeartbeats 2000000
def repN (l : List Nat) : Nat → List Nat
  | 0=>[]
  | k + 1=>l ++ repN l k
theorem repN_len (l : List Nat) : ∀ k,(repN l k).length = l.length * k
  | 0=>rfl
  | k + 1=>by simp [repN,repN_len l k,Nat.mul_succ];lia
theorem repN_snoc (l : List Nat) : ∀ k,repN l (k + 1) = repN l k ++ l
  | 0=>by simp [repN]
  | k + 1=>by
    show l ++ repN l (k + 1) = (l ++ repN l k) ++ l
    rw [repN_snoc l k,List.append_assoc]
theorem rep_fold (a : List Nat) : ∀ (k : Nat) (b : List Nat),(List.replicate k a.toArray).foldl (· ++ ·) b.toArray = (b ++ repN a k).toArray
  | 0,b=>by simp [repN]
  | k + 1,b=>by
    rw [List.replicate_succ,List.foldl_cons,List.append_toArray,rep_fold a k (b ++ a)]
    simp [repN]
theorem txt_mul (a : List Nat) (k : Nat) : Txt.mul (tL a) (k : Int) = tL (repN a k):=by
  unfold Txt.mul
  by_cases h : (k : Int) < 1
  · rw [if_pos h]
    obtain rfl : k = 0:=by lia
    rfl
  · rw [if_neg h]
    split
    · rename_i h2
      rw [Bool.or_eq_true] at h2
      rcases h2 with h2 | h2
      · obtain rfl : k = 1:=by have:=beq_iff_eq.mp h2;lia
        simp [repN]
      · obtain rfl : a = []:=List.eq_nil_of_length_eq_zero (beq_iff_eq.mp h2)
        have : ∀ k,repN [] k = []:=fun k=>by induction k with | zero=>rfl | succ k ih=>simp [repN,ih]
        rw [this]
    · show Str.mk ((List.replicate k (a.toArray)).foldl (· ++ ·) ([] : List Nat).toArray) = _
      rw [rep_fold a k []];rfl
theorem mul_ok {a : List Nat} {k : Nat} (ha : a.length ≤ 100) (hk : k ≤ 100) : MulOk (tL a) (k : Int):=by
  refine ⟨?_,fun h _=>?_,fun h _=>?_⟩
  · rw [Bool.or_eq_false_iff];exact ⟨decide_eq_false (by lia),decide_eq_false (by lia)⟩
  · have h1 : (1000 : Int) ≤ (2 ^ 63 - 1) / (k : Int):=Int.le_ediv_of_mul_le (by lia) (by lia)
    rw [tL_len];lia
  · have : (tL a).length * (k : Int).toNat ≤ 10000:=by
      rw [tL_len];exact Nat.le_trans (Nat.mul_le_mul ha (show (k : Int).toNat ≤ 100 by lia)) (by decide)
    unfold PySem.Builtin.Str.tooLong
    exact decide_eq_false (by rw [sizeLine_eq];lia)
theorem mul_L {prog : Program} {w : World} {A : Around} {E : Value → Shared → Prop} {s : Shared} {x : Str} {a : List Nat} {k : Nat} {t u : Tok} {Q : Value → Shared → Prop} (hx : x = tL a) (ha : a.length ≤ 100) (hk : k ≤ 100) (h : ∀ t' k',Q (.str (tL (repN a k)) t') { s with toks:=k' }) :
    wpAny (model prog w) A (binaryOp .Mult (.str x t) (.int (k : Int) u)) Q E s:=by
  subst hx
  exact SB.mul (mul_ok ha hk) fun t' k'=>txt_mul a k ▸ h t' k'
theorem lit4 : Str.ofString "(" = tL [40]:=by decide +kernel
theorem lit5 : Str.ofString "|b)c" = tL [124,98,41,99]:=by decide +kernel
def aboutL (k : Nat) (l : List Nat) : List Nat:=(repN [40] k ++ l) ++ repN [124,98,41,99] k
theorem aboutL_succ (k : Nat) (l : List Nat) : aboutL (k + 1) l = 40 :: (aboutL k l ++ [124,98,41,99]):=by
  unfold aboutL
  rw [repN_snoc [124,98,41,99] k]
  simp [repN]
theorem aboutL_len (k : Nat) (l : List Nat) : (aboutL k l).length = l.length + 5 * k:=by
  unfold aboutL
  simp [repN_len];lia
theorem about_sat (w : World) {l : List Nat} {k : Nat} {u u2 : Tok} (hl : l.length ≤ 300) (hk : k ≤ 20) :
    Sat w 934 3 [.str (tL l) u,.int (k : Int) u2] [] (fun r own'=>(∃ t,r = .str (tL (aboutL k l)) t) ∧ own' = []):=by
  have hz1:=repN_len [40] k
  have hz2:=repN_len [124,98,41,99] k
  simp only [List.length_cons,List.length_nil] at hz1 hz2
  refine' sat_of (binds:=[(Str.ofString "page",.str (tL l) u),(Str.ofString "many",.int (k : Int) u2)]) ?ho ?hcd ?hn ?hbind ?hloc ?h ?hcell ?hco ?hgen ?hk
  (case ho=>k_is);(case hcd=>k_is);(case hn=>first | decide | lia);(case hbind=>intro s X;first | exact BindsTo.of_eq rfl | exact binds_K X rfl (by k_is) rfl rfl rfl);(case hloc=>exact locs rfl)
  (case hcell=>decide);(case hco=>rfl);(case hgen=>rfl);(case hk=>rfl)
  intros
  repeat' (first|(k_unfold;(try dsimp only))|((with_reducible show wpAny _ _ (binaryOp _ _ _) _ _ _);first|(k_here;(with_reducible show wpAny _ _ (binaryOp Operator.Mult (Value.str _ _) (Value.int _ _)) _ _ _);k_dflt (refine' no_implicit_lambda% (mul_L ?hx ?ha ?hk ?_);(case hx=>with_reducible first | exact lit4 | exact lit5 | assumption);(case ha=>decide);(case hk=>lia));intro qt' qk')|(k_here;(with_reducible show wpAny _ _ (binaryOp Operator.Add (Value.str _ _) (Value.str _ _)) _ _ _);k_dflt (refine' no_implicit_lambda% (add_L ?hx ?hy ?hs ?_);(case hx=>with_reducible first | exact lit1 | exact lit2 | exact lit3 | assumption | exact rfl);(case hy=>with_reducible first | exact lit1 | exact lit2 | exact lit3 | assumption | exact rfl);(case hs=>((try simp only [List.length_append,List.length_cons,List.length_nil,List.length_replicate]);lia)));intro qt' qk'))|walk1|(refine StD.nx (by with_reducible assumption) _ ?_)|(refine StD.rt (by with_reducible assumption) _ _ ?_)|(refine Ups.up (by with_reducible assumption) _ _ ?_;(try dsimp only))|(k_end;wrow_close)|dsimp only|(leave1;try dsimp only))
  all_goals exact done (by assumption) (by assumption) ⟨⟨_,rfl⟩,rfl⟩
set_option maxHeartbeats 2000000
inductive BaseR : Int → List Nat → Tr → Dat → Int → Int → Prop
  | a : BaseR 0 [97] (.chars 97) (tdC 97) 0 0
  | ab : BaseR 1 [34,97,98,34] (.cat (.chars 97) (.chars 98)) (.tuple [.str (Str.ofString "cat"),tdC 97,tdC 98]) 0 1
  | al : BaseR 2 [40,97,124,41] (.alt (.chars 97) .empty) (.tuple [.str (Str.ofString "alt"),tdC 97,.tuple [.str (Str.ofString "empty")]]) 1 2
  | em : BaseR 3 [34,34] .empty (.tuple [.str (Str.ofString "empty")]) 1 1
theorem base_row {way : Int} (h0 : 0 ≤ way) (h4 : way < 4) : ∃ pg T D lo ti,BaseR way pg T D lo ti:=by
  rcases (show way = 0 ∨ way = 1 ∨ way = 2 ∨ way = 3 by lia) with rfl | rfl | rfl | rfl
  · exact ⟨_,_,_,_,_,.a⟩
  · exact ⟨_,_,_,_,_,.ab⟩
  · exact ⟨_,_,_,_,_,.al⟩
  · exact ⟨_,_,_,_,_,.em⟩
def BaseIn (tl : Led) (pg : List Nat) (D : Dat) (lo ti : Int) (r : Value) : Prop:=∃ tp td t1 t2 t3,r = .ref tp ∧ (tp,tup #[.str (tL pg) t1,.ref td,.int lo t2,.int ti t3]) ∈ tl ∧ DatIn tl (.ref td) D
theorem lit_a : Str.ofString "a" = tL [97]:=by decide +kernel
theorem lit_ab : Str.ofString "\"ab\"" = tL [34,97,98,34]:=by decide +kernel
theorem lit_al : Str.ofString "(a|)" = tL [40,97,124,41]:=by decide +kernel
theorem lit_em : Str.ofString "\"\"" = tL [34,34]:=by decide +kernel
theorem fin_base {g h' : Heap} {s : Shared} {L' D td : Addr} {m' : Str → Option Value} {rest : Led} {tk' : Nat} {x : Str} {pg : List Nat} {Da : Dat} {lo ti : Int} {t1 t2 t3 : Tok} (hx : x = tL pg) (F : Fr g L' h' m') (N : News g L' h' ((D,tup #[.str x t1,.ref td,.int lo t2,.int ti t3]) :: rest)) (hD : DatIn rest (.ref td) Da) :
    Done g s (fun r own'=>BaseIn own' pg Da lo ti r) (.ref D) { s with heap:=h',toks:=tk' }:=by
  subst hx
  exact done F N ⟨_,_,_,_,_,rfl,.head _,hD.mono fun q hq=>.tail _ hq⟩
theorem base_a (w : World) (u : Tok) : Sat w 927 20 [.int 0 u] [] (fun r own'=>BaseIn own' [97] (tdC 97) 0 0 r):=by
  refine' sat_of (binds:=[(Str.ofString "way",.int 0 u)]) ?ho ?hcd ?hn ?hbind ?hloc ?h ?hcell ?hco ?hgen ?hk
  (case ho=>k_is);(case hcd=>k_is);(case hn=>first | decide | lia);(case hbind=>intro s X;first | exact BindsTo.of_eq rfl | exact binds_K X rfl (by k_is) rfl rfl rfl);(case hloc=>exact locs rfl)
  (case hcell=>decide);(case hco=>rfl);(case hgen=>rfl);(case hk=>rfl)
  intros
  repeat' (first|(k_unfold;(try dsimp only))|(k_here;(with_reducible show wpAny _ _ (call (Value.ref 920) [Value.str (PySem.Str.ofString "a") _]) _ _ _);k_dflt (refine' no_implicit_lambda% (use_newV (fun _ _ h=>dat_ref h) (sign_a _ _) ?B ?F ?X ?N ?T ?kk ?dd ?uu ?_);tb_rel);intro qq9' qtl9' qh' qtk' qF' qN' qhV' qhO';(try simp only [List.cons_append,List.nil_append,List.append_assoc] at qN');(try k_sweep))|walk1|(refine StD.nx (by with_reducible assumption) _ ?_)|(refine StD.rt (by with_reducible assumption) _ _ ?_)|(refine Ups.up (by with_reducible assumption) _ _ ?_;(try dsimp only))|(k_end;wrow_close)|dsimp only|(leave1;try dsimp only))
  rename News _ _ _ _=>N9
  exact fin_base lit_a (by assumption) N9 (by assumption)
theorem base_ab (w : World) (u : Tok) : Sat w 927 20 [.int 1 u] [] (fun r own'=>BaseIn own' [34,97,98,34] (.tuple [.str (Str.ofString "cat"),tdC 97,tdC 98]) 0 1 r):=by
  refine' sat_of (binds:=[(Str.ofString "way",.int 1 u)]) ?ho ?hcd ?hn ?hbind ?hloc ?h ?hcell ?hco ?hgen ?hk
  (case ho=>k_is);(case hcd=>k_is);(case hn=>first | decide | lia);(case hbind=>intro s X;first | exact BindsTo.of_eq rfl | exact binds_K X rfl (by k_is) rfl rfl rfl);(case hloc=>exact locs rfl)
  (case hcell=>decide);(case hco=>rfl);(case hgen=>rfl);(case hk=>rfl)
  intros
  repeat' (first|(k_unfold;(try dsimp only))|((with_reducible show wpAny _ _ (call _ _) _ _ _);first|(k_here;(with_reducible show wpAny _ _ (call (Value.ref 920) [Value.str (PySem.Str.ofString "b") _]) _ _ _);k_dflt (refine' no_implicit_lambda% (use_newV (fun _ _ h=>dat_ref h) (sign_b _ _) ?B ?F ?X ?N ?T ?kk ?dd ?uu ?_);tb_rel);intro qq9' qtl9' qh' qtk' qF' qN' qhV' qhO';(try simp only [List.cons_append,List.nil_append,List.append_assoc] at qN');(try k_sweep))|(k_here;(with_reducible show wpAny _ _ (call (Value.ref 920) [Value.str (PySem.Str.ofString "a") _]) _ _ _);k_dflt (refine' no_implicit_lambda% (use_newV (fun _ _ h=>dat_ref h) (sign_a _ _) ?B ?F ?X ?N ?T ?kk ?dd ?uu ?_);tb_rel);intro qq9' qtl9' qh' qtk' qF' qN' qhV' qhO';(try simp only [List.cons_append,List.nil_append,List.append_assoc] at qN');(try k_sweep)))|(k_here;(with_reducible show wpAny _ _ (compareOp CmpOp.Eq (Value.int _ _) (Value.int _ _)) _ _ _);refine no_implicit_lambda% (eq_int_f (by lia) ?_))|walk1|(refine StD.nx (by with_reducible assumption) _ ?_)|(refine StD.rt (by with_reducible assumption) _ _ ?_)|(refine Ups.up (by with_reducible assumption) _ _ ?_;(try dsimp only))|(k_end;wrow_close)|dsimp only|(leave1;try dsimp only))
  rename News _ _ _ _=>N9
  rename DatIn _ _ (tdC 97)=>D1
  rename DatIn _ _ (tdC 98)=>D2
  exact fin_base lit_ab (by assumption) N9 (.tuple (.head _) (.cons (.str _ _) (.cons (D1.mono fun q hq=>.tail _ (List.mem_append_left _ hq)) (.cons (D2.mono fun q hq=>.tail _ (List.mem_append_right _ hq)) .nil))))
theorem base_al (w : World) (u : Tok) : Sat w 927 20 [.int 2 u] [] (fun r own'=>BaseIn own' [40,97,124,41] (.tuple [.str (Str.ofString "alt"),tdC 97,.tuple [.str (Str.ofString "empty")]]) 1 2 r):=by
  refine' sat_of (binds:=[(Str.ofString "way",.int 2 u)]) ?ho ?hcd ?hn ?hbind ?hloc ?h ?hcell ?hco ?hgen ?hk
  (case ho=>k_is);(case hcd=>k_is);(case hn=>first | decide | lia);(case hbind=>intro s X;first | exact BindsTo.of_eq rfl | exact binds_K X rfl (by k_is) rfl rfl rfl);(case hloc=>exact locs rfl)
  (case hcell=>decide);(case hco=>rfl);(case hgen=>rfl);(case hk=>rfl)
  intros
  repeat' (first|(k_unfold;(try dsimp only))|(k_here;(with_reducible show wpAny _ _ (call (Value.ref 920) [Value.str (PySem.Str.ofString "a") _]) _ _ _);k_dflt (refine' no_implicit_lambda% (use_newV (fun _ _ h=>dat_ref h) (sign_a _ _) ?B ?F ?X ?N ?T ?kk ?dd ?uu ?_);tb_rel);intro qq9' qtl9' qh' qtk' qF' qN' qhV' qhO';(try simp only [List.cons_append,List.nil_append,List.append_assoc] at qN');(try k_sweep))|(k_here;(with_reducible show wpAny _ _ (compareOp CmpOp.Eq (Value.int _ _) (Value.int _ _)) _ _ _);refine no_implicit_lambda% (eq_int_f (by lia) ?_))|walk1|(refine StD.nx (by with_reducible assumption) _ ?_)|(refine StD.rt (by with_reducible assumption) _ _ ?_)|(refine Ups.up (by with_reducible assumption) _ _ ?_;(try dsimp only))|(k_end;wrow_close)|dsimp only|(leave1;try dsimp only))
  rename News _ _ _ _=>N9
  rename DatIn _ _ (tdC 97)=>D1
  exact fin_base lit_al (by assumption) N9 (.tuple (.head _) (.cons (.str _ _) (.cons (D1.mono (by lcg_sub)) (.cons (.tuple (.tail _ (.head _)) (.cons (.str _ _) .nil)) .nil))))
theorem base_em (w : World) (u : Tok) : Sat w 927 20 [.int 3 u] [] (fun r own'=>BaseIn own' [34,34] (.tuple [.str (Str.ofString "empty")]) 1 1 r):=by
  refine' sat_of (binds:=[(Str.ofString "way",.int 3 u)]) ?ho ?hcd ?hn ?hbind ?hloc ?h ?hcell ?hco ?hgen ?hk
  (case ho=>k_is);(case hcd=>k_is);(case hn=>first | decide | lia);(case hbind=>intro s X;first | exact BindsTo.of_eq rfl | exact binds_K X rfl (by k_is) rfl rfl rfl);(case hloc=>exact locs rfl)
  (case hcell=>decide);(case hco=>rfl);(case hgen=>rfl);(case hk=>rfl)
  intros
  repeat' (first|(k_unfold;(try dsimp only))|(k_here;(with_reducible show wpAny _ _ (compareOp CmpOp.Eq (Value.int _ _) (Value.int _ _)) _ _ _);refine no_implicit_lambda% (eq_int_f (by lia) ?_))|walk1|(refine StD.nx (by with_reducible assumption) _ ?_)|(refine StD.rt (by with_reducible assumption) _ _ ?_)|(refine Ups.up (by with_reducible assumption) _ _ ?_;(try dsimp only))|(k_end;wrow_close)|dsimp only|(leave1;try dsimp only))
  rename News _ _ _ _=>N9
  exact fin_base lit_em (by assumption) N9 (.tuple (.head _) (.cons (.str _ _) .nil))
theorem base_sat (w : World) {way : Int} {pg : List Nat} {T : Tr} {D : Dat} {lo ti : Int} (h : BaseR way pg T D lo ti) (u : Tok) : Sat w 927 20 [.int way u] [] (fun r own'=>BaseIn own' pg D lo ti r):=by
  cases h
  · exact base_a w u
  · exact base_ab w u
  · exact base_al w u
  · exact base_em w u
set_option maxHeartbeats 2000000
section
variable {w : World} {f : Addr} {n : Nat} {vs : List Value} {news : Led} {p : Program} {loose : List Str} {mean : ExcName → Option Value} {mg mb : Str → Option Value} {dp un : Nat} {gd : Option (List Code)} {cn : Str} {cs : Scope} {a : Addr} {ccd : Value} {cl : List (Str × Addr)} {outer : List Env} {A₀ : Around} {base h₀ : Heap} {L : Addr} {m : Str → Option Value} {s : Shared} {Q E : Value → Shared → Prop}
theorem use_one {l : Addr} {o : Obj} {V : Value → Obj → Prop} {g : Obj → Led} (S : Sat w f n vs [(l,o)] (fun r own'=>∃ o',own' = [(l,o')] ∧ V r o')) (hs : (l,o) ∈ news) (U : UpdF l o news g) (B : Below A₀ base outer h₀) (F : Fr h₀ L s.heap m) (X : (KF w.params).In h₀) (N : News h₀ L s.heap news) (T : Top p loose mean mg mb h₀) (hk : cs.kind = .function) (hd : dp + n < recursionLimit) (hu : un + 8 * n < cLine)
    (ret : ∀ r o' h' tk',Fr h₀ L h' m → News h₀ L h' (g o') → V r o' → Q r { s with heap:=h',toks:=tk' }) : wpAny (model PR w) (ktrTop dp un gd cn cs L a ccd cl outer) (call (.ref f) vs) Q E s:=by
  have hs' : ∀ q ∈ [(l,o)],q ∈ news:=fun q hq=>by rw [List.mem_singleton.mp hq];exact hs
  refine S p loose mean mg mb dp un gd cn cs a ccd cl outer A₀ base h₀ L m s Q E B F X (fun q hq=>N q (hs' q hq)) T hk hd hu fun r own' h' tk' F' N' keep _ hV=>?_
  obtain ⟨o',rfl,hV⟩:=hV
  refine ret r o' h' tk' F' (upd_news U N (.head _) hs' (fun q hq=>?_) keep) hV
  rcases List.mem_cons.mp hq with rfl | hq
  · exact N' _ (.head _)
  · obtain ⟨hq,hn⟩:=List.mem_filter.mp hq
    rw [List.mem_singleton.mp hq] at hn;simp at hn
end
theorem ladled_one (w : World) {l : Addr} {N c most : Int} {t1 t2 u : Tok} {e : Nat} (hN : 0 ≤ N) (hc : 0 ≤ c) (hm : 0 < most) (hm2 : most ≤ 100) :
    Sat w 913 4 [.ref l,.int most u] [(l,pailO N c t1 t2 e)] (fun r own'=>∃ o',own' = [(l,o')] ∧ ∃ d t N' c' t3 t4 e',r = .int d t ∧ o' = pailO N' c' t3 t4 e' ∧ 0 ≤ d ∧ d < most ∧ 0 ≤ N' ∧ 0 ≤ c'):=(ladled_sat w hN hc hm hm2).rw (by
  rintro v o ⟨d,t,N',c',t3,t4,e',rfl,rfl,h⟩
  exact ⟨_,rfl,d,t,N',c',t3,t4,e',rfl,rfl,h⟩)
theorem comp_inv {prog : Program} {w : World} {A : Around} {s : Shared} {h₀ : Heap} {L : Addr} {m : Str → Option Value} {env : Env} {elt : PySem.Expr} {x : Str} {scope : Scope} {cl : List (Str × Addr)} {P : Nat → Value → Prop} {Fin : List Value → List (Addr × Obj) → Prop} {n : Nat} (Inv : Nat → List Value → Led → Prop)
    (step : ∀ i ys news v I oI C oC D m₂ h tk (E' : Value → Shared → Prop),i < n → Inv i ys news → P i v → NsObj oC m₂ → m₂ x = some v → Fr h₀ L h m → News h₀ L h ((I,oI) :: (C,oC) :: (D,lst ys) :: news) → Off3 I C D news → ((@Ne Nat I C) ∧ (@Ne Nat I D) ∧ (@Ne Nat C D)) →
      wpAny (model prog w) A (eval elt (compEnvC scope cl C env)) (CompEnd h₀ L m { s with heap:=h,toks:=tk } I oI C oC D (lst ys) (fun _=>True) (fun y news'=>Inv (i + 1) (ys ++ [y]) news')) E' { s with heap:=h,toks:=tk })
    (fin : ∀ ys news,Inv n ys news → Fin ys news) : ∀ (k i : Nat) (ys : List Value) (news : Led),i + k = n → Inv i ys news → CompRest prog w A h₀ L m env elt x scope cl s (fun _=>True) P Fin k i ys news
  | 0,i,ys,news,e,h=>.zero (fin ys news (by rw [← e];exact h))
  | k + 1,i,ys,news,e,h=>.succ fun v I oI C oC D m₂ hp tk E' hv hC hx F N off ne=>wpAny_mono (step i ys news v I oI C oC D m₂ hp tk E' (by lia) h hv hC hx F N off ne) (fun y s₂ zz=>by obtain ⟨h',tk',news',e2,F',N',off',_,r⟩:=zz;exact ⟨h',tk',news',e2,F',N',off',trivial,comp_inv Inv step fin k (i + 1) _ _ (by lia) r⟩) fun _ _ z=>z
set_option maxHeartbeats 2000000
theorem treeR_app (T : Tr) (b : List Int) : ∀ a : List Int,treeR T (a ++ b) = treeR (treeR T b) a
  | []=>rfl
  | k :: a=>congrArg (wrapI k) (treeR_app T b a)
abbrev aboutT (k : Nat) (T : Tr) : Tr:=treeR T (List.replicate k 3)
theorem aboutT_succ (k : Nat) (T : Tr) : aboutT (k + 1) T = .cat (.alt (aboutT k T) (.chars 98)) (.chars 99):=by
  show treeR T (List.replicate (k + 1) 3) = _
  rw [List.replicate_succ];rfl
theorem aboutT_in (k : Nat) (T : Tr) : aboutT (k + 1) T = aboutT k (aboutT 1 T):=by
  show treeR T (List.replicate (k + 1) 3) = treeR (treeR T (List.replicate 1 3)) (List.replicate k 3)
  rw [← treeR_app,List.replicate_append_replicate]
theorem about_hd (k : Nat) (T : Tr) : hdT (aboutT (k + 1) T) = some ("cat",false):=by rw [aboutT_succ];rfl
def sgnL (k : Int) : Nat:=if k = 0 then 42 else if k = 1 then 43 else 63
theorem loop_wrap {k : Int} (h : k = 0 ∨ k = 1 ∨ k = 2) (T : Tr) : loopT (sgnL k) T = wrapI k T:=by
  rcases h with rfl | rfl | rfl <;> rfl
theorem loops_tree : ∀ (ls : List Int) (T : Tr),(∀ k ∈ ls,k = 0 ∨ k = 1 ∨ k = 2) → loopsT (ls.map sgnL) T = treeR T ls.reverse
  | [],_,_=>rfl
  | k :: ls,T,h=>by
    show loopsT (ls.map sgnL) (loopT (sgnL k) T) = _
    rw [loops_tree ls _ fun x hx=>h x (.tail _ hx),loop_wrap (h k (.head _)),List.reverse_cons,treeR_app];rfl
theorem sgn_mem {ls : List Int} : ∀ x ∈ ls.map sgnL,x = 42 ∨ x = 43 ∨ x = 63:=fun x hx=>by
  obtain ⟨k,_,rfl⟩:=List.mem_map.mp hx
  unfold sgnL;split
  · exact .inl rfl
  · split
    · exact .inr (.inl rfl)
    · exact .inr (.inr rfl)
def LvW (w : World) (T : Tr) (f : Int → Int) (n : Nat) : Prop:=∀ (led : Led) (v : Value),NodeIn led T v → LevC w led v f n
theorem LvW.up {w : World} {T : Tr} {f : Int → Int} {n n' : Nat} (h : LvW w T f n) (e : n ≤ n') : LvW w T f n':=fun led v hv=>(h led v hv).up e
theorem lvw_empty (w : World) : LvW w .empty (fun _=>1) 6:=by rintro led v ⟨a,d,n,rfl,m1,m2⟩;exact lev_empty w led m1 m2
theorem lvw_chars (w : World) (x : Int) : LvW w (.chars x) (fun _=>0) 6:=by rintro led v ⟨a,d,u,u2,cs,rfl,m1,m2,m3⟩;exact lev_chars w led m1 m2
section
variable {w : World} {l r r2 T : Tr} {f g f2 : Int → Int} {n : Nat} {nm nm' nm2 : String} {b b' b2 : Bool}
theorem lvw_cat (hl : LvW w l f n) (hr : LvW w r g n) (e1 : hdT l = some (nm,b)) (e2 : hdT r = some (nm',b')) (e3 : (Str.ofString nm == Str.ofString "cat") = false) : LvW w (.cat l r) (fun k=>max (f 2) (g 2) + if 2 ≤ k then 1 else 0) (n + 8):=by
  rintro led v ⟨a,d,h1,u1,h2,u2,vl,vr,rfl,m1,m2,n1,n2⟩
  have fl:=hl _ _ n1
  have fr:=hr _ _ n2
  obtain ⟨b,C,db,es,k,rfl,b1,b2,b3,b4,b5⟩:=head_of w e1 n1
  obtain ⟨c,rfl⟩:=ref_of e2 n2
  exact lev_cat w led m1 m2 (spine_cat w led m1 m2 b1 b2 b3 b5 e3) fl fr
theorem lvw_alt (hl : LvW w l f n) (hr : LvW w r g n) (e1 : hdT l = some (nm,b)) (e2 : hdT r = some (nm',b')) (e3 : (Str.ofString nm == Str.ofString "alt") = false) : LvW w (.alt l r) (fun k=>max (f 1) (g 1) + if 1 ≤ k then 1 else 0) (n + 8):=by
  rintro led v ⟨a,d,h1,u1,h2,u2,vl,vr,rfl,m1,m2,n1,n2⟩
  have fl:=hl _ _ n1
  have fr:=hr _ _ n2
  obtain ⟨b,C,db,es,k,rfl,b1,b2,b3,b4,b5⟩:=head_of w e1 n1
  obtain ⟨c,rfl⟩:=ref_of e2 n2
  exact lev_alt w led m1 m2 (spine_alt w led m1 m2 b1 b2 b3 b5 e3) fl fr
theorem lvw_alt3 (hl : LvW w l f n) (hr : LvW w r g n) (hr2 : LvW w r2 f2 n) (e1 : hdT l = some (nm,b)) (e2 : hdT r = some (nm',b')) (e5 : hdT r2 = some (nm2,b2)) (e3 : (Str.ofString nm == Str.ofString "alt") = false) :
    LvW w (.alt (.alt l r) r2) (fun k=>max (max (f 1) (g 1)) (f2 1) + if 1 ≤ k then 1 else 0) (n + 8):=by
  rintro led v ⟨a',d',h1',u1',h2',u2',vl',vr',rfl,m1',m2',n1',n2'⟩
  obtain ⟨a,d,h1,u1,h2,u2,vl,vr,rfl,m1,m2,n1,n2⟩:=n1'
  have fl:=hl _ _ n1
  have fr:=hr _ _ n2
  have fr2:=hr2 _ _ n2'
  obtain ⟨b,C,db,es,k,rfl,b1,b2,b3,b4,b5⟩:=head_of w e1 n1
  obtain ⟨c,rfl⟩:=ref_of e2 n2
  obtain ⟨c2,rfl⟩:=ref_of e5 n2'
  exact lev_alt3 w led m1' m2' (spine_alt3 w led m1' m2' m1 m2 b1 b2 b3 b5 e3) fr2 fl fr
theorem lvw_loops {ls : List Nat} {mn : Nat} (hT : LvW w T f n) (e1 : hdT T = some (nm,false)) (e2 : ls.length = mn + 1) (e3 : mn ≤ 100) : LvW w (loopsT ls T) (fun _=>f 2 + (mn : Int) / 20) (n + 8):=by
  intro led v hv
  obtain ⟨v0,n0,c0⟩:=chain_of w ls e1 hv
  have f0:=hT _ _ n0
  obtain ⟨b,Cb,db,es,k,rfl,b1,b2,b3,b4,b5⟩:=head_of w e1 n0
  rw [e2] at c0
  obtain ⟨a,C,d,hh,u,vb,nm',rfl,m1,m2,k1,k2,k3,c1⟩:=id c0
  have kk : ∃ s : String,Kind w C (Str.ofString s) ∧ (s = "star" ∨ s = "plus" ∨ s = "opt"):=by
    rcases k3 with rfl | rfl | rfl
    · exact ⟨_,kind_star w,by simp⟩
    · exact ⟨_,kind_plus w,by simp⟩
    · exact ⟨_,kind_opt w,by simp⟩
  obtain ⟨s,ks,hs⟩:=kk
  refine lev_loops w led m1 m2 ks ?_ ?_ ?_ c0 b3 b4 b1 b2 f0 e3 <;> (rcases hs with rfl | rfl | rfl <;> decide +kernel)
end
theorem about_lv {w : World} {X : Tr} {f : Int → Int} {n : Nat} {nm : String} {b : Bool} (h : LvW w X f n) (hd : hdT X = some (nm,b)) (hne : (Str.ofString nm == Str.ofString "alt") = false) (h0 : 0 ≤ f 1) (hn : 6 ≤ n) :
    ∀ k : Nat,∃ g,LvW w (aboutT (k + 1) X) g (n + 16 * (k + 1)) ∧ g 0 = f 1 + k + 1 ∧ g 1 = f 1 + k + 1 ∧ g 2 = f 1 + k + 2
  | 0=>by
    have a:=lvw_alt h ((lvw_chars w 98).up hn) hd rfl hne
    have c:=lvw_cat a ((lvw_chars w 99).up (by lia)) rfl rfl (by decide +kernel)
    refine ⟨_,(aboutT_succ 0 X) ▸ (c.up (by lia)),?_,?_,?_⟩ <;> simp <;> lia
  | k + 1=>by
    obtain ⟨g,hg,g0,g1,g2⟩:=about_lv h hd hne h0 hn k
    have a:=lvw_alt hg ((lvw_chars w 98).up (by lia)) (about_hd k X) rfl (by decide +kernel)
    have c:=lvw_cat a ((lvw_chars w 99).up (by lia)) rfl rfl (by decide +kernel)
    refine ⟨_,(aboutT_succ (k + 1) X) ▸ (c.up (by lia)),?_,?_,?_⟩ <;> simp [g1] <;> lia
theorem base_lv (w : World) {way : Int} {pg : List Nat} {T : Tr} {D : Dat} {lo ti : Int} (h : BaseR way pg T D lo ti) (k : Nat) :
    ∃ g nm,LvW w (aboutT k T) g (22 + 16 * k) ∧ hdT (aboutT k T) = some (nm,false) ∧ g 0 = lo + k ∧ g 2 = (if 0 < k then lo + k + 1 else ti) ∧ 0 ≤ lo ∧ 0 ≤ ti:=by
  have gen : ∀ {X : Tr} {f : Int → Int} {n : Nat} {nm : String},LvW w X f n → n ≤ 22 → 6 ≤ n → hdT X = some (nm,false) → (Str.ofString nm == Str.ofString "alt") = false → f 0 = lo → f 1 = lo → f 2 = ti → 0 ≤ lo → 0 ≤ ti →
      ∃ g nm,LvW w (aboutT k X) g (22 + 16 * k) ∧ hdT (aboutT k X) = some (nm,false) ∧ g 0 = lo + k ∧ g 2 = (if 0 < k then lo + k + 1 else ti) ∧ 0 ≤ lo ∧ 0 ≤ ti:=by
    intro X f n nm hX hn h6 hd hne f0 f1 f2 l0 t0
    cases k with
    | zero=>exact ⟨f,nm,hX.up (by lia),hd,by rw [f0];simp,by rw [f2];simp,l0,t0⟩
    | succ k =>
      obtain ⟨g,hg,g0,g1,g2⟩:=about_lv hX hd hne (by lia) h6 k
      refine ⟨g,"cat",hg.up (by lia),about_hd k X,?_,?_,l0,t0⟩
      · rw [g0,f1];push_cast;lia
      · rw [g2,f1,if_pos (by lia)];push_cast;lia
  cases h with
  | a=>exact gen (lvw_chars w 97) (by decide) (by decide) rfl (by decide +kernel) rfl rfl rfl (by decide) (by decide)
  | ab=>exact gen (lvw_cat (lvw_chars w 97) (lvw_chars w 98) rfl rfl (by decide +kernel)) (by decide) (by decide) rfl (by decide +kernel) rfl rfl rfl (by decide) (by decide)
  | em=>exact gen (lvw_empty w) (by decide) (by decide) rfl (by decide +kernel) rfl rfl rfl (by decide) (by decide)
  | al =>
    have al0:=lvw_alt (lvw_chars w 97) (lvw_empty w) rfl rfl (by decide +kernel)
    have a1:=lvw_alt3 (lvw_chars w 97) (lvw_empty w) (lvw_chars w 98) rfl rfl rfl (by decide +kernel)
    have c1:=lvw_cat a1 ((lvw_chars w 99).up (by lia)) rfl rfl (by decide +kernel)
    cases k with
    | zero=>exact ⟨_,"alt",al0.up (by lia),rfl,rfl,rfl,by decide,by decide⟩
    | succ k =>
      cases k with
      | zero=>exact ⟨_,"cat",(aboutT_succ 0 _) ▸ (c1.up (by lia)),about_hd 0 _,by decide,by decide,by decide,by decide⟩
      | succ k =>
        obtain ⟨g,hg,g0,g1,g2⟩:=about_lv (X:=aboutT 1 (.alt (.chars 97) .empty)) ((aboutT_succ 0 _) ▸ c1) (about_hd 0 _) (by decide +kernel) (by decide) (by decide) k
        refine ⟨g,"cat",?_,about_hd (k + 1) _,?_,?_,by decide,by decide⟩
        · rw [aboutT_in (k + 1)];exact hg.up (by lia)
        · rw [g0];simp;lia
        · rw [g2,if_pos (by lia)];simp;lia
theorem wrapI_fill {tl tl' : Led} (hs : ∀ q ∈ tl,q ∈ tl') {S S' : Tr} (h : ∀ v,NodeIn tl S v → NodeIn tl' S' v) (k : Int) : ∀ v,NodeIn tl (wrapI k S) v → NodeIn tl' (wrapI k S') v:=by
  intro v hv
  unfold wrapI at hv ⊢
  split
  · rename_i e;rw [if_pos e] at hv
    obtain ⟨a,d,h1,u1,vb,rfl,m1,m2,n1⟩:=hv
    exact ⟨a,d,h1,u1,vb,rfl,hs _ m1,hs _ m2,h _ n1⟩
  · rename_i e;rw [if_neg e] at hv
    split
    · rename_i e;rw [if_pos e] at hv
      obtain ⟨a,d,h1,u1,vb,rfl,m1,m2,n1⟩:=hv
      exact ⟨a,d,h1,u1,vb,rfl,hs _ m1,hs _ m2,h _ n1⟩
    · rename_i e;rw [if_neg e] at hv
      split
      · rename_i e;rw [if_pos e] at hv
        obtain ⟨a,d,h1,u1,vb,rfl,m1,m2,n1⟩:=hv
        exact ⟨a,d,h1,u1,vb,rfl,hs _ m1,hs _ m2,h _ n1⟩
      · rename_i e;rw [if_neg e] at hv
        obtain ⟨a,d,h1,u1,h2,u2,vl,vr,rfl,m1,m2,⟨a',d',h1',u1',h2',u2',vl',vr',rfl,m1',m2',n1',n2'⟩,n2⟩:=hv
        exact ⟨a,d,h1,u1,h2,u2,_,vr,rfl,hs _ m1,hs _ m2,⟨a',d',h1',u1',h2',u2',vl',vr',rfl,hs _ m1',hs _ m2',h _ n1',NodeIn.up (T:=.chars 98) hs n2'⟩,NodeIn.up (T:=.chars 99) hs n2⟩
theorem treeR_fill {tl tl' : Led} (hs : ∀ q ∈ tl,q ∈ tl') {S S' : Tr} (h : ∀ v,NodeIn tl S v → NodeIn tl' S' v) : ∀ (l : List Int) (v : Value),NodeIn tl (treeR S l) v → NodeIn tl' (treeR S' l) v
  | [],v,hv=>h v hv
  | k :: l,v,hv=>wrapI_fill hs (treeR_fill hs h l) k v hv
theorem treeR_plug {ex tl : Led} {T : Tr} {v0 v : Value} {l : List Int} (h0 : NodeIn ex T v0) (h : NodeIn tl (treeR (.hole v0) l) v) : NodeIn (ex ++ tl) (treeR T l) v :=
  treeR_fill (fun q hq=>List.mem_append_right _ hq) (fun x hx=>by
    obtain rfl : x = v0:=hx
    exact h0.up fun q hq=>List.mem_append_left _ hq) l v h
section
variable (w : World) (R : RK) (hl : R.tx.length ≤ 1000)
  (n1 : @Ne Nat R.r R.dr) (n2 : @Ne Nat R.r R.c) (n3 : @Ne Nat R.r R.dc) (n4 : @Ne Nat R.dr R.c) (n5 : @Ne Nat R.dr R.dc) (n6 : @Ne Nat R.c R.dc)
  {ex : Led} (hE : OffX R [] ex)
include hl n1 n2 n3 n4 n5 n6 hE
theorem reads_abouts {d n : Nat} {mid : List Nat} {T : Tr} (hB : Reads w R ex d mid T n) (h20 : 20 ≤ n) : ∀ k : Nat,Reads w R ex (d + k) (aboutL k mid) (aboutT k T) (n + 6 * k)
  | 0=>by
    have e : aboutL 0 mid = mid:=by simp [aboutL,repN]
    rw [e];exact hB
  | k + 1=>by
    rw [aboutL_succ,aboutT_succ]
    exact (reads_about w R hl n1 n2 n3 n4 n5 n6 hE (reads_abouts hB h20 k) (by lia)).le (by lia) (by lia)
theorem reads_base {way : Int} {pg : List Nat} {T : Tr} {D : Dat} {lo ti : Int} (h : BaseR way pg T D lo ti) : Reads w R ex 1 pg T 60:=by
  cases h with
  | a=>exact (reads_a w R hl n1 n2 n3 n4 n5 n6 hE).le (by lia) (by lia)
  | ab=>exact (reads_quo2 w R hl n1 n2 n3 n4 n5 n6 hE).le (by lia) (by lia)
  | al=>exact reads_alt w R hl n1 n2 n3 n4 n5 n6 hE
  | em=>exact (reads_quo0 w R hl n1 n2 n3 n4 n5 n6 hE).le (by lia) (by lia)
end
set_option maxHeartbeats 2000000
theorem at_pre (p l : List Nat) : At (tL (p ++ l)) (p.length : Int) l:=by
  have:=At.skip p (At.zero (p ++ l))
  rwa [Int.zero_add] at this
theorem TopReads.up {w : World} {ex : Led} {dv : Value} {isP : Bool} {tx : Str} {T : Tr} {n n' : Nat} {i j : Int} (h : TopReads w ex dv isP tx T n i j) (e : n ≤ n') : TopReads w ex dv isP tx T n' i j :=
  ⟨fun r dr c dc h1 h2 h3 h4 u1 u2 u3 u4 hT hA k1 k2 k3 t5 t4 a1 a2 a3 a4 a5 a6 b1 b2 b3 b4=>(h.of r dr c dc h1 h2 h3 h4 u1 u2 u3 u4 hT hA k1 k2 k3 t5 t4 a1 a2 a3 a4 a5 a6 b1 b2 b3 b4).up e⟩
def RdAll (w : World) (ex : Led) (dv : Value) (mid : List Nat) (T : Tr) : Prop :=
  ∀ (isP : Bool) (tx : Str) (i : Int) (rest : List Nat),tx.length ≤ 1000 → At tx i (mid ++ rest) → StopAt isP 0 rest → (hdS rest == Str.ofString "|") = false → TopReads w ex dv isP tx T 400 i (i + mid.length)
theorem rd_of {w : World} {ex : Led} {dv : Value} {mid : List Nat} {T : Tr} {d n : Nat} (hd : d ≤ 20) (hn : n ≤ 390)
    (h : ∀ (R : RK),R.dv = dv → R.tx.length ≤ 1000 → @Ne Nat R.r R.dr → @Ne Nat R.r R.c → @Ne Nat R.r R.dc → @Ne Nat R.dr R.c → @Ne Nat R.dr R.dc → @Ne Nat R.c R.dc → OffX R [] ex → Reads w R ex d mid T n) : RdAll w ex dv mid T :=
  fun isP tx i rest hl ha hst hno=>(top_of hl hd ha hst hno fun R e1 e2 e3 a1 a2 a3 a4 a5 a6 hE=>h R e1 (e3 ▸ hl) a1 a2 a3 a4 a5 a6 hE).up (by lia)
theorem rd_x (w : World) (ex : Led) (dv : Value) : RdAll w ex dv [120] (.chars 120) :=
  rd_of (d:=0) (n:=20) (by decide) (by decide) fun R _ hl a1 a2 a3 a4 a5 a6 hE=>reads_x w R hl a1 a2 a3 a4 a5 a6 hE
theorem rd_base (w : World) {way : Int} {pg : List Nat} {T : Tr} {D : Dat} {lo ti : Int} (h : BaseR way pg T D lo ti) {k : Nat} (hk : k ≤ 19) (ex : Led) (dv : Value) : RdAll w ex dv (aboutL k pg) (aboutT k T) :=
  rd_of (d:=1 + k) (n:=60 + 6 * k) (by lia) (by lia) fun R _ hl a1 a2 a3 a4 a5 a6 hE=>reads_abouts w R hl a1 a2 a3 a4 a5 a6 hE (reads_base w R hl a1 a2 a3 a4 a5 a6 hE h) (by lia) k
theorem rd_def (w : World) {ex : Led} {D : Addr} {o : Obj} {kvs : List (Str × Value)} {d : Nat} {v : Value} (hd : o.IsDictOf (PySem.strKind PR w) kvs) (lo : (D == sysModules) = false) (d0 : 48 ≤ d) (d1 : d ≤ 51) (hv : valueAt kvs (⟨#[68,d]⟩ : Str) = some v)
    {ls : List Int} (hls : ∀ k ∈ ls,k = 0 ∨ k = 1 ∨ k = 2) (hn : ls.length ≤ 20) {k : Nat} (hk : k ≤ 19) : RdAll w ((D,o) :: ex) (.ref D) (aboutL k (123 :: 68 :: d :: 125 :: ls.map sgnL)) (aboutT k (treeR (.hole v) ls.reverse)) :=
  rd_of (d:=0 + k) (n:=60 + 6 * k) (by lia) (by lia) fun R e hl a1 a2 a3 a4 a5 a6 hE=>reads_abouts w R hl a1 a2 a3 a4 a5 a6 hE (loops_tree ls (.hole v) hls ▸ reads_def w R hl a1 a2 a3 a4 a5 a6 hE e hd lo d0 d1 hv sgn_mem (by rw [List.length_map];exact hn)) (by lia) k
section
variable {w : World} {ex : Led} {dv : Value} {mid : List Nat} {T T' : Tr} {f : Int → Int} {u : Tok} (hR : RdAll w ex dv mid T) (hT : ∀ tl r,NodeIn tl T r → NodeIn (ex ++ tl) T' r) (hL : LvW w T' f 400) (hl : mid.length ≤ 900) (hdv : handedIn dv = true)
include hR hT hL hl hdv
theorem heard_lo (hf : f 0 ≤ 20) : Sat w 941 430 [.str (tL mid) u,dv] ex (RO ex (fun tl r=>NodeIn (ex ++ tl) T' r)):=by
  have ha:=at_pre [] mid
  have he:=at_pre mid []
  rw [List.append_nil] at he
  have h0:=hR false (tL mid) 0 [] (by rw [tL_len];lia) (by rw [List.append_nil];exact ha) trivial (by decide +kernel)
  rw [Int.zero_add] at h0
  refine (heard_ok w (read_ok w h0 (by rw [tL_len];lia) he (fun tl r hr=>hL _ _ (hT tl r hr)) hf hdv)).rw ?_
  rintro v o ⟨tl,rfl,hn,hO⟩
  exact ⟨tl,rfl,hT tl v hn,hO⟩
theorem heard_hi (hf : 20 < f 0) : SatT w 941 430 [.str (tL mid) u,dv] ex (fun r own'=>(∃ t,r = .int 0 t) ∧ own' = ex):=by
  have ha:=at_pre [] mid
  have he:=at_pre mid []
  rw [List.append_nil] at he
  have h0:=hR false (tL mid) 0 [] (by rw [tL_len];lia) (by rw [List.append_nil];exact ha) trivial (by decide +kernel)
  rw [Int.zero_add] at h0
  exact heard_no w (read_no w h0 (by rw [tL_len];lia) he (fun tl r hr=>hL _ _ (hT tl r hr)) hf hdv)
end
set_option maxHeartbeats 2000000
theorem at_mid (p m q : List Nat) : At (tL ((p ++ m) ++ q)) (p.length : Int) (m ++ q):=by rw [List.append_assoc];exact at_pre p (m ++ q)
theorem at_end (p m q : List Nat) : At (tL ((p ++ m) ++ q)) ((p.length : Int) + m.length) q:=by
  have:=at_pre (p ++ m) q
  rwa [List.length_append,Int.natCast_add] at this
theorem len_gt (z : Int) (c : Nat) (m : List Nat) : z < z + ((tL (c :: m)).length : Int):=by rw [tL_len];simp;lia
section
variable {w : World} {ex : Led} {dv : Value} {c : Nat} {mid' : List Nat} {T T' : Tr} {f : Int → Int} {u : Tok} {yh : String × Bool} (hR : RdAll w ex dv (c :: mid') T) (hT : ∀ tl r,NodeIn tl T r → NodeIn (ex ++ tl) T' r) (hL : LvW w T' f 400) (hl : (c :: mid').length ≤ 900) (hdv : handedIn dv = true) (hyh : hdT T = some yh) (hc : (Str.mk #[c] == Str.ofString "^") = false)
include hR hT hL hl hdv
theorem pat_lo (hc : (Str.mk #[c] == Str.ofString "^") = false) (hf : f 0 ≤ 20) (u2 : Tok) : Sat w 899 420 [.str (tL (([113,32] ++ (c :: mid')) ++ [32,113])) u,.int 2 u2,dv] ex (RO ex (fun tl r=>PatIn tl T (2 + ((tL (c :: mid')).length : Int)) r)):=by
  have hz : (tL (([113,32] ++ (c :: mid')) ++ [32,113])).length ≤ 1000:=by rw [tL_len];simp at hl ⊢;lia
  have h0:=hR true _ 2 [32,113] hz (at_mid [113,32] (c :: mid') [32,113]) (.inr (.inr (.inl ⟨rfl,rfl⟩))) (by decide +kernel)
  exact pattern_ok w h0 hz (at_mid [113,32] (c :: mid') [32,113]) hc (at_end [113,32] (c :: mid') [32,113]) (len_gt 2 c mid') (fun tl r hr=>hL _ _ (hT tl r hr)) hf hdv
theorem pat_hi (hc : (Str.mk #[c] == Str.ofString "^") = false) (hf : 20 < f 0) (u2 : Tok) : SatE w 899 420 [.str (tL (([113,32] ++ (c :: mid')) ++ [32,113])) u,.int 2 u2,dv] ex (fun e d own'=>ExcIn own' d 2):=by
  have hz : (tL (([113,32] ++ (c :: mid')) ++ [32,113])).length ≤ 1000:=by rw [tL_len];simp at hl ⊢;lia
  have h0:=hR true _ 2 [32,113] hz (at_mid [113,32] (c :: mid') [32,113]) (.inr (.inr (.inl ⟨rfl,rfl⟩))) (by decide +kernel)
  exact pattern_no w (at_pre [] _) h0 hz (at_mid [113,32] (c :: mid') [32,113]) hc (at_end [113,32] (c :: mid') [32,113]) (len_gt 2 c mid') (fun tl r hr=>hL _ _ (hT tl r hr)) hf hdv
theorem tr_lo (hyh : hdT T = some yh) (hf : f 0 ≤ 20) (u2 : Tok) : Sat w 899 420 [.str (tL (([113,32,120,47] ++ (c :: mid')) ++ [32,113])) u,.int 2 u2,dv] ex (RO ex (fun tl r=>PatT tl (.chars 120) T (4 + ((tL (c :: mid')).length : Int)) r)):=by
  have hz : (tL (([113,32,120,47] ++ (c :: mid')) ++ [32,113])).length ≤ 1000:=by rw [tL_len];simp at hl ⊢;lia
  have h0:=hR true _ 4 [32,113] hz (at_mid [113,32,120,47] (c :: mid') [32,113]) (.inr (.inr (.inl ⟨rfl,rfl⟩))) (by decide +kernel)
  have a2 : At (tL (([113,32,120,47] ++ (c :: mid')) ++ [32,113])) 2 (120 :: 47 :: ((c :: mid') ++ [32,113])):=at_pre [113,32] _
  have a3 : At (tL (([113,32,120,47] ++ (c :: mid')) ++ [32,113])) 3 (47 :: ((c :: mid') ++ [32,113])):=at_pre [113,32,120] _
  have hx:=rd_x w ex dv true _ 2 (47 :: ((c :: mid') ++ [32,113])) hz a2 (.inr (.inr (.inr ⟨rfl,rfl,rfl⟩))) (show (Str.mk #[47] == Str.ofString "|") = false by decide +kernel)
  exact trail_ok w hyh hx ⟨h0⟩ hz a2 a3 (at_end [113,32,120,47] (c :: mid') [32,113]) (len_gt 4 c mid') (fun tl r hr=>((lvw_chars w 120).up (by decide)) _ _ (NodeIn.up (T:=.chars 120) (fun q hq=>List.mem_append_right _ hq) hr)) (by decide) (fun tl r hr=>hL _ _ (hT tl r hr)) hf hdv
theorem tr_hi (hyh : hdT T = some yh) (hf : 20 < f 0) (u2 : Tok) : SatE w 899 420 [.str (tL (([113,32,120,47] ++ (c :: mid')) ++ [32,113])) u,.int 2 u2,dv] ex (fun e d own'=>ExcIn own' d 2):=by
  have hz : (tL (([113,32,120,47] ++ (c :: mid')) ++ [32,113])).length ≤ 1000:=by rw [tL_len];simp at hl ⊢;lia
  have h0:=hR true _ 4 [32,113] hz (at_mid [113,32,120,47] (c :: mid') [32,113]) (.inr (.inr (.inl ⟨rfl,rfl⟩))) (by decide +kernel)
  have a2 : At (tL (([113,32,120,47] ++ (c :: mid')) ++ [32,113])) 2 (120 :: 47 :: ((c :: mid') ++ [32,113])):=at_pre [113,32] _
  have a3 : At (tL (([113,32,120,47] ++ (c :: mid')) ++ [32,113])) 3 (47 :: ((c :: mid') ++ [32,113])):=at_pre [113,32,120] _
  have hx:=rd_x w ex dv true _ 2 (47 :: ((c :: mid') ++ [32,113])) hz a2 (.inr (.inr (.inr ⟨rfl,rfl,rfl⟩))) (show (Str.mk #[47] == Str.ofString "|") = false by decide +kernel)
  exact trail_no w (at_pre [] _) hyh hx ⟨h0⟩ hz a2 a3 (at_end [113,32,120,47] (c :: mid') [32,113]) (len_gt 4 c mid') (fun tl r hr=>((lvw_chars w 120).up (by decide)) _ _ (NodeIn.up (T:=.chars 120) (fun q hq=>List.mem_append_right _ hq) hr)) (by decide) (fun tl r hr=>hL _ _ (hT tl r hr)) hf hdv
theorem ip_hi (hyh : hdT T = some yh) (hc : (Str.mk #[c] == Str.ofString "^") = false) (hf : 20 < f 0) (b : Bool) : SatT w 962 440 [.str (tL (c :: mid')) u,dv,.bool b,.none] ex (fun r own'=>r = .bool true ∧ own' = ex):=by
  cases b
  · exact ip_no w hl fun u=>parted_no w fun u2=>pat_hi hR hT hL hl hdv hc hf u2
  · exact ip_noT w hl fun u=>parted_no w fun u2=>tr_hi hR hT hL hl hdv hyh hf u2
end
theorem ip_lo {w : World} {ex : Led} {dv : Value} {c : Nat} {mid' : List Nat} {T : Tr} {f : Int → Int} {u : Tok} {yh : String × Bool} {du ly td : Addr} {e1 e : Nat} {vs : List Value} {ns : List Int} {T0 : Tr} {D : Dat}
    (hR : RdAll w ex dv (c :: mid') T) (hT : ∀ tl r,NodeIn tl T r → NodeIn (ex ++ tl) (treeR T0 ns.reverse) r) (hL : LvW w (treeR T0 ns.reverse) f 400) (hl : (c :: mid').length ≤ 900) (hdv : handedIn dv = true) (hyh : hdT T = some yh) (hc : (Str.mk #[c] == Str.ofString "^") = false) (hf : f 0 ≤ 20)
    (hB : BaseT T0 D) (hdu : (du,W.listOf #[.ref ly,.ref td] e1) ∈ ex) (hly : (ly,W.listOf vs.toArray e) ∈ ex) (hi : IntsAre vs ns) (hr : ∀ k ∈ ns,0 ≤ k ∧ k ≤ 3) (hz : ns.length ≤ 200) (hD : DatIn ex (.ref td) D) (b : Bool) :
    Sat w 962 440 [.str (tL (c :: mid')) u,dv,.bool b,.ref du] ex (RO ex (fun tl r=>r = .bool true)):=by
  cases b
  · refine ip_ok w hl hB hdu hly hi hr hz hD (by decide) fun u=>(parted_ok w hyh fun u2=>pat_lo hR hT hL hl hdv hc hf u2).rw ?_
    rintro v o ⟨tl,rfl,⟨l,e,b,t,rfl,m1,n1⟩,hO⟩
    exact ⟨tl,rfl,⟨l,e,b,t,rfl,m1,hT tl b n1⟩,hO⟩
  · refine ip_okT w hl hB hdu hly hi hr hz hD (by decide) fun u=>(parted_okT w rfl hyh fun u2=>tr_lo hR hT hL hl hdv hyh hf u2).rw ?_
    rintro v o ⟨tl,rfl,⟨l,e,b,c,t,rfl,m1,n1,n2⟩,hO⟩
    exact ⟨tl,rfl,⟨l,e,b,c,t,rfl,m1,n1,hT tl c n2⟩,hO⟩
set_option maxHeartbeats 2000000
theorem use_newH {w : World} {f : Addr} {n : Nat} {vs : List Value} {news : Led} {H : Heap → Prop} {V : Led → Value → Prop} {p : Program} {loose : List Str} {mean : ExcName → Option Value} {mg mb : Str → Option Value} {dp un : Nat} {gd : Option (List Code)} {cn : Str} {cs : Scope} {a : Addr} {ccd : Value} {cl : List (Str × Addr)} {outer : List Env} {A₀ : Around} {base h₀ : Heap} {L : Addr} {m : Str → Option Value} {s : Shared} {Q E : Value → Shared → Prop}
    (S : SatH w f n vs [] H (fun r own'=>V own' r)) (hh : H h₀) (B : Below A₀ base outer h₀) (F : Fr h₀ L s.heap m) (X : (KF w.params).In h₀) (N : News h₀ L s.heap news) (T : Top p loose mean mg mb h₀) (hk : cs.kind = .function) (hd : dp + n < recursionLimit) (hu : un + 8 * n < cLine)
    (ret : ∀ r tl h' tk',Fr h₀ L h' m → News h₀ L h' (news ++ tl) → V tl r → AllOff news tl → Q r { s with heap:=h',toks:=tk' }) : wpAny (model PR w) (ktrTop dp un gd cn cs L a ccd cl outer) (call (.ref f) vs) Q E s:=by
  refine S p loose mean mg mb dp un gd cn cs a ccd cl outer A₀ base h₀ L m s Q E B F X (fun q hq=>by cases hq) T hk hd hu hh fun r own' h' tk' F' N' keep fresh hV=>?_
  refine ret r own' h' tk' F' (fun q hq=>?_) hV (allOff_of fun p hp q hq e=>?_)
  · rcases List.mem_append.mp hq with hq | hq
    · exact ⟨keep _ _ (N q hq).1 (by simp),(N q hq).2⟩
    · exact N' q hq
  · have:=fresh q hq (by simp)
    rw [e,(N p hp).1] at this;cases this
abbrev lawE (L fa : Addr) (cd : Value) (sc : Scope) : Env:=envX (Str.ofString "law") sc L fa cd [(Str.ofString "pail",L + 1)]
theorem comp_hold {prog : Program} {w : World} {A : Around} {E : Value → Shared → Prop} {s : Shared} {env : Env} {st : Stmt} {Q : Flow → Shared → Prop} (h : Held (wpAny (model prog w) A (exec st env) Q E s)) : wpAny (model prog w) A (exec st env) Q E s:=h
abbrev lawM (LD sl : Addr) (way aim many inner : Int) (tr : Bool) (t1 t2 t3 t4 : Tok) : Str → Option Value:=fun y=>if y = Str.ofString "loops" then some (.ref LD) else if y = Str.ofString "inner" then some (.int inner t1) else if y = Str.ofString "is_trail" then some (.bool tr)
  else if y = Str.ofString "way" then some (.int way t2) else if y = Str.ofString "aim" then some (.int aim t3) else if y = Str.ofString "many" then some (.int many t4) else List.lookup y [(Str.ofString "script",Value.ref sl)]
theorem pail_comp {prog : Program} {w : World} {A : Around} {s : Shared} {h₀ : Heap} {L : Addr} {mm : Str → Option Value} {env : Env} {elt : PySem.Expr} {x : Str} {scope : Scope} {cl : List (Str × Addr)} {P : Nat → Value → Prop} {Fin : List Value → List (Addr × Obj) → Prop} {n : Nat} (pre : Led) {l : Addr} {N c : Int} {t1 t2 : Tok} {e : Nat} (h0N : 0 ≤ N) (h0c : 0 ≤ c)
    (step : ∀ (ys : List Value) (N c : Int) (t1 t2 : Tok) (e : Nat) v I oI C oC D m₂ h tk (E' : Value → Shared → Prop),0 ≤ N → 0 ≤ c → NsObj oC m₂ → m₂ x = some v → Fr h₀ L h mm → News h₀ L h ((I,oI) :: (C,oC) :: (D,lst ys) :: (pre ++ [(l,pailO N c t1 t2 e)])) → Off3 I C D (pre ++ [(l,pailO N c t1 t2 e)]) → ((@Ne Nat I C) ∧ (@Ne Nat I D) ∧ (@Ne Nat C D)) →
      wpAny (model prog w) A (eval elt (compEnvC scope cl C env)) (CompEnd h₀ L mm { s with heap:=h,toks:=tk } I oI C oC D (lst ys) (fun _=>True) (fun y news'=>∃ k t N' c' t3 t4 e',y = .int k t ∧ news' = pre ++ [(l,pailO N' c' t3 t4 e')] ∧ 0 ≤ N' ∧ 0 ≤ c' ∧ 0 ≤ k ∧ k < 3)) E' { s with heap:=h,toks:=tk })
    (fin : ∀ (ys : List Value) (ls : List Int) (N' c' : Int) t3 t4 e',IntsAre ys ls → ls.length = n → (∀ k ∈ ls,k = 0 ∨ k = 1 ∨ k = 2) → Fin ys (pre ++ [(l,pailO N' c' t3 t4 e')])) :
    CompRest prog w A h₀ L mm env elt x scope cl s (fun _=>True) P Fin n 0 [] (pre ++ [(l,pailO N c t1 t2 e)]):=by
  refine comp_inv (fun i ys nw=>∃ (N c : Int) (t1 t2 : Tok) (e : Nat) (ls : List Int),nw = pre ++ [(l,pailO N c t1 t2 e)] ∧ 0 ≤ N ∧ 0 ≤ c ∧ IntsAre ys ls ∧ ls.length = i ∧ ∀ k ∈ ls,k = 0 ∨ k = 1 ∨ k = 2) ?_ ?_ n 0 [] _ (Nat.zero_add n) ⟨N,c,t1,t2,e,[],rfl,h0N,h0c,.nil,rfl,fun _ h=>by cases h⟩
  · intro i ys nw v I oI C oC D m₂ h tk E' hi J9 _ hC hx F Ns off ne
    refine gen fun G9 hG9=>?_
    obtain ⟨N,c,t1,t2,e,ls,rfl,hN,hc,hI,hl,hk⟩:=J9
    refine hG9 ?_
    refine wpAny_mono (step ys N c t1 t2 e v I oI C oC D m₂ h tk E' hN hc hC hx F Ns off ne) (fun y s₂ zz=>?_) fun _ _ z=>z
    obtain ⟨h',tk',news',e2,F',Nw',off',_,r⟩:=zz
    refine ⟨h',tk',news',e2,F',Nw',off',trivial,?_⟩
    obtain ⟨k,t,N',c',t3,t4,e',rfl,rfl,a1,a2,a3,a4⟩:=r
    refine ⟨N',c',t3,t4,e',ls ++ [k],rfl,a1,a2,?_,by simp [hl],fun z hz=>?_⟩
    · exact hI.append (.cons k t .nil)
    · rcases List.mem_append.mp hz with hz | hz
      · exact hk z hz
      · rw [List.mem_singleton.mp hz];lia
  · rintro ys nw ⟨N,c,t1,t2,e,ls,rfl,hN,hc,hI,hl,hk⟩
    exact fin ys ls N c t1 t2 e hI hl hk
@[irreducible] def Tip (p : Prop) : Prop:=p
theorem Tip.of {p : Prop} (h : p) : Tip p:=by unfold Tip;exact h
theorem Tip.out {p : Prop} (h : Tip p) : p:=by unfold Tip at h;exact h
def LawRest (w : World) (h₀ : Heap) (L fa : Addr) (cd : Value) (sl : Addr) (gs : Array GenState) (dr : Drawn) (os : OsState) (Q : Flow → Shared → Prop) : Prop :=
  ∀ (LD : Addr) (way inner : Int) (a m : Nat) (tr : Bool) (t1 t2 t3 t4 : Tok) (ys : List Value) (ls : List Int) (h : Heap) (tk : Nat),0 ≤ way → way < 4 → a < 6 → 0 ≤ inner → inner ≤ 14 + (a : Int) → m < 61 → IntsAre ys ls → ls.length = m + 1 → (∀ k ∈ ls,k = 0 ∨ k = 1 ∨ k = 2) →
    Fr h₀ L h (lawM LD sl way (14 + (a : Int)) (1 + (m : Int)) inner tr t1 t2 t3 t4) → News h₀ L h [(LD,lst ys)] →
    Tip (wpAny (model PR w) (callerA.deeper (lawE L fa cd (dS pgm 61 1000))) (execs (List.drop 4 (dB pgm 61 1000)) (lawE L fa cd (dS pgm 61 1000))) Q (fun _ _=>False) ⟨h,gs,dr,tk,os⟩)
theorem law_walk (w : World) {p : Program} {loose : List Str} {mean : ExcName → Option Value} {mg mb : Str → Option Value} {h₀ : Heap} {L fa : Addr} {cd : Value} {sl : Addr} {vs : List Value} {ns : List Int} {s : Shared} {oc : Obj} {Q : Flow → Shared → Prop}
    (K0 : Below callerA h₀ [] h₀) (X : (KF w.params).In h₀) (T : Top p loose mean mg mb h₀) (hl : h₀.IsList sl vs.toArray) (hi : IntsAre vs ns) (hz : ns.length ≤ 63)
    (F : Fr h₀ L s.heap (fun y=>List.lookup y [(Str.ofString "script",Value.ref sl)])) (N : News h₀ L s.heap [(L + 1,oc)]) (hoc : oc.data = .cell none) (hrest : LawRest w h₀ L fa cd sl s.gens s.drawn s.os Q) :
    wpAny (model PR w) (callerA.deeper (lawE L fa cd (dS pgm 61 1000))) (execs (dB pgm 61 1000) (lawE L fa cd (dS pgm 61 1000))) Q (fun _ _=>False) s:=by
  unfold LawRest at hrest
  rw [show dB pgm 61 1000 = _ by conv=>lhs;whnf,show dS pgm 61 1000 = _ by conv=>lhs;whnf] at hrest ⊢
  repeat' (first|(k_unfold;(try dsimp only))|(k_here;(with_reducible show wpAny _ _ (exec (Stmt.Assign [_] (PySem.Expr.ListComp _ _ _ _) _) _) _ _ _);refine no_implicit_lambda% (comp_hold ?_))|((with_reducible show wpAny _ _ (call _ _) _ _ _);first|(k_here;(with_reducible show wpAny _ _ (call (Value.ref 906) _) _ _ _);k_dflt (refine' no_implicit_lambda% (use_newH (pail_sat _ ?hi ?hz) ?hh ?B ?F ?X ?N ?T ?kk ?dd ?uu ?_);tb_rel;(case hi=>assumption);(case hz=>assumption);(case hh=>assumption));intro qr' qtl' qh' qtk' qF' qN' qhV' qhO';(refine no_implicit_lambda% (gen fun qG qhG=>?_));k_dflt (obtain ⟨ql',qe',qn',qt1',qt2',qe9',qe8',qhn'⟩:=qhV');subst qe9' qe8';(refine no_implicit_lambda% (qhG ?_));(clear qhG);have hc0' : (0 : Int) ≤ 0:=Int.le_refl 0;(try simp only [List.cons_append,List.nil_append,List.append_assoc] at qN');(try k_sweep))|(k_here;(with_reducible show wpAny _ _ (call (Value.ref 913) [_,Value.int _ _]) _ _ _);k_dflt (refine' no_implicit_lambda% (use_one (ladled_one _ ?hN ?hc ?hm ?hm2) ?hs ?U ?B ?F ?X ?N ?T ?kk ?dd ?uu ?_);tb_rel;(case hs=>k_mem);(case hN=>assumption);(case hc=>assumption);(case hm=>lia);(case hm2=>lia);(case U=>k_updF));intro qr' qo' qh' qtk' qF' qN' qhV';(refine no_implicit_lambda% (gen fun qG qhG=>?_));k_dflt (obtain ⟨qd',qt',qn',qc',qt3',qt4',qe',qe9',qe8',qb1',qb2',qb3',qb4'⟩:=qhV');subst qe9';subst qe8';(refine no_implicit_lambda% (qhG ?_));(clear qhG);have bb':=And.intro qb1' qb2';(try k_sweep)))|walk1|(refine StD.nx (by with_reducible assumption) _ ?_)|(refine StD.rt (by with_reducible assumption) _ _ ?_)|(refine Ups.up (by with_reducible assumption) _ _ ?_;(try dsimp only))|(k_end;wrow_close)|dsimp only|(leave1;try dsimp only))
  unfold Held
  rename Fr _ _ _ _=>F9
  rename News _ _ _ _=>N9
  rename (0 : Int) ≤ _ ∧ _ < (4 : Int)=>hway
  rename (0 : Int) ≤ _ ∧ _ < (6 : Int)=>ha
  rename (0 : Int) ≤ _ ∧ _ < (61 : Int)=>hmm
  rename (0 : Int) ≤ _ ∧ _ < _ + (1 : Int)=>hin
  refine gen fun G hG=>?_
  obtain ⟨a,ea⟩:=Int.eq_ofNat_of_zero_le ha.1
  obtain ⟨m,em⟩:=Int.eq_ofNat_of_zero_le hmm.1
  subst ea em
  refine hG ?_;clear hG
  have hm61 : m < 61:=by have:=hmm.2;lia
  k_dflt (refine LCg.Assign_ListComp_U (F₀:=F9) (by rfl) (by with_unfolding_all rfl) (by with_unfolding_all rfl) (by decide) (by rfl) (by decide) (by rfl) (by rfl) (by rfl) ?_)
  repeat' ((fail_if_success (with_reducible show LCg.CompSrc _ _ _ _ _ _ _ _ _ _ _ _ _ _));first|(k_unfold;(try dsimp only))|walk1|(refine StD.nx (by with_reducible assumption) _ ?_)|(refine StD.rt (by with_reducible assumption) _ _ ?_)|(refine Ups.up (by with_reducible assumption) _ _ ?_;(try dsimp only))|(k_end;wrow_close)|(dsimp only;walk1)|(leave1;try dsimp only))
  rename IsRange _ _ _ _ _ _ _ _=>hR
  rename Fr _ _ _ _=>F8
  rename News _ _ _ _=>N8
  have er : Builtin.Range.rangeSize 0 (1 + (m : Int)) 1 = ((m + 1 : Nat) : Int):=by
    rw [rangeSize_nat];lia
  refine LCg.CompSrc.range (n:=m + 1) (by rfl) F8 N8 hR ?small er ?line fun g'=>?_
  case small=>exact small_one (by decide) (by decide) (by lia) (by lia)
  case line=>rw [sizeLine_eq];lia
  refine' pail_comp [_,_,_] (by assumption) (by assumption) ?step ?fin
  case step =>
    clear F8 N8 hR
    intro ys N c t1 t2 e v I oI C oC D m₂ h tk E' hN hc hC hx F' N' off' ne'
    have off0:=off'
    simp only [List.cons_append,List.nil_append] at N' off'
    simp only [LCg.Off3,and_true] at off'
    refine gen fun G hG=>?_
    obtain ⟨⟨_,_,_⟩,⟨_,_,_⟩,⟨_,_,_⟩,_,_,_⟩:=off'
    obtain ⟨_,_,_⟩:=ne'
    refine hG ?_;clear hG
    repeat' (first|(k_unfold;(try dsimp only))|(k_here;(with_reducible show wpAny _ _ (call (Value.ref 913) [_,Value.int _ _]) _ _ _);k_dflt (refine' no_implicit_lambda% (use_one (ladled_one _ ?hN ?hc ?hm ?hm2) ?hs ?U ?B ?F ?X ?N ?T ?kk ?dd ?uu ?_);tb_rel;(case hs=>k_mem);(case hN=>assumption);(case hc=>assumption);(case hm=>lia);(case hm2=>lia);(case U=>k_updF));intro qr' qo' qh' qtk' qF' qN' qhV';(refine no_implicit_lambda% (gen fun qG qhG=>?_));k_dflt (obtain ⟨qd',qt',qn',qc',qt3',qt4',qe',qe9',qe8',qb1',qb2',qb3',qb4'⟩:=qhV');subst qe9';subst qe8';(refine no_implicit_lambda% (qhG ?_));(clear qhG);have bb':=And.intro qb1' qb2';(try k_sweep))|((fail_if_success (with_reducible show wpAny _ _ _ _ _ _));k_dflt (refine' comp_end0 ?F ?N ?off ?hS ?_;(case F=>assumption);(case N=>assumption);(case off=>assumption);(case hS=>lcg_src)))|walk1|(refine StD.nx (by with_reducible assumption) _ ?_)|(refine StD.rt (by with_reducible assumption) _ _ ?_)|(refine Ups.up (by with_reducible assumption) _ _ ?_;(try dsimp only))|(k_end;wrow_close)|dsimp only|(leave1;try dsimp only))
  case fin =>
    intro ys ls N' c' t3 t4 e' hI hln hk D h tk F' N' off'
    refine StD.nx (by with_reducible assumption) _ ?_
    exact no_implicit_lambda% (hrest D _ _ a m _ _ _ _ _ ys ls h tk hway.1 hway.2 (by have:=ha.2;lia) hin.1 (by have:=hin.2;lia) hm61 hI hln hk F' (fun q hq=>N' q (by rw [List.mem_singleton.mp hq];exact .head _))).out
set_option maxHeartbeats 2000000
local macro_rules | `(tactic| ktr_room)=>`(tactic| k_dflt (exact Nat.le_of_ble_eq_true rfl))
local macro_rules | `(tactic| ktr_units)=>`(tactic| k_dflt (exact Nat.le_of_ble_eq_true rfl))
def Mark (n : Nat) : Prop:=n = n
theorem base_t {way : Int} {pg : List Nat} {T : Tr} {D : Dat} {lo ti : Int} (h : BaseR way pg T D lo ti) : BaseT T D ∧ lo ≤ 1 ∧ ti ≤ 2 ∧ pg.length ≤ 4:=by
  cases h
  · exact ⟨.a,by decide,by decide,by decide⟩
  · exact ⟨.ab,by decide,by decide,by decide⟩
  · exact ⟨.al,by decide,by decide,by decide⟩
  · exact ⟨.em,by decide,by decide,by decide⟩
set_option maxHeartbeats 2000000
structure IntK (w : World) (C : Addr) : Prop where
  no : kin_notT (KF w.params) C "int" = true
  c1 : plainGet (KF w.params) C "__class__" = true
  c2 : hasDictIn (KF w.params) C = true
  c3 : findIn (KF w.params) (.ref C) "__class__" = some (some (.builtin "object.__class__"))
  c4 : mroIn (KF w.params) C (.type "object") = some true
theorem intk_of {w : World} {C : Addr} {b : Bool} (h : LoopK w C b) (e : kin_notT (KF w.params) C "int" = true) : IntK w C:=⟨e,h.c1,h.c2,h.c3,h.c4⟩
theorem int_mk {w : World} {led : Led} {C a : Addr} (x : HdIn led C (.ref a)) (k : IntK w C) : ∃ C d es n,(a,instObj C d) ∈ led ∧ (d,dictOf es n) ∈ led ∧ IntK w C:=by
  obtain ⟨_,d,es,n,e,m1,m2,_⟩:=x;cases e;exact ⟨C,d,es,n,m1,m2,k⟩
theorem node_int (w : World) {led : Led} {T : Tr} {a : Addr} {y : String × Bool} (hd : hdT T = some y) (h : NodeIn led T (.ref a)) : ∃ C d es n,(a,instObj C d) ∈ led ∧ (d,dictOf es n) ∈ led ∧ IntK w C:=by
  cases T with
  | hole v=>cases hd
  | empty=>cases hd;exact int_mk (hd_empty h) (intk_of (loopk_empty w) (by kin_no))
  | chars x=>cases hd;exact int_mk (hd_chars h) (intk_of (loopk_chars w) (by kin_no))
  | cat l r=>cases hd;exact int_mk (PairP.hd (C:=560) h) (intk_of (loopk_cat w) (by kin_no))
  | alt l r=>cases hd;exact int_mk (PairP.hd (C:=572) h) (intk_of (loopk_alt w) (by kin_no))
  | star l=>cases hd;exact int_mk (LoopP.hd (C:=617) h) (intk_of (loopk_star w) (by kin_no))
  | plus l=>cases hd;exact int_mk (LoopP.hd (C:=629) h) (intk_of (loopk_plus w) (by kin_no))
  | opt l=>cases hd;exact int_mk (LoopP.hd (C:=641) h) (intk_of (loopk_opt w) (by kin_no))
theorem isi_int {w : World} {A : Around} {E : Value → Shared → Prop} {s : Shared} {h₀ : Heap} {L a : Addr} {m : Str → Option Value} {news led : Led} {T : Tr} {y : String × Bool} {Q : Value → Shared → Prop} (hd : hdT T = some y) (hn : NodeIn led T (.ref a)) (hs : ∀ q ∈ led,q ∈ news) (F : Fr h₀ L s.heap m) (X : (KF w.params).In h₀) (N : News h₀ L s.heap news)
    (h : ∀ tk,Q (.bool false) { s with toks:=tk }) : wpAny (model PR w) A (call (.builtin "isinstance") [.ref a,.type "int"]) Q E s:=by
  obtain ⟨C,d,es,n,m1,m2,hK⟩:=node_int w hd hn
  exact kin_callT (X.keeps F.keep) (InstAt.of_news N (hs _ m1) (hs _ m2)) hK.no (by kernel_rfl) hK.c1 hK.c2 hK.c3 (kc1 w) (kc2 w) hK.c4 (h _)
abbrev lawM2 (td : Addr) (pg : List Nat) (tt lo : Int) (v1 v2 v3 : Tok) (m0 : Str → Option Value) : Str → Option Value:=fun y=>if y = Str.ofString "tight" then some (.int tt v1) else if y = Str.ofString "loose" then some (.int lo v2) else if y = Str.ofString "tree" then some (.ref td) else if y = Str.ofString "page" then some (.str (tL pg) v3) else m0 y
def LawR2 (w : World) (h₀ : Heap) (L fa : Addr) (cd : Value) (gs : Array GenState) (dr : Drawn) (os : OsState) (Q : Flow → Shared → Prop) (m0 : Str → Option Value) (pg : List Nat) (D : Dat) (lo tt : Int) (LD : Addr) (ys : List Value) : Prop :=
  ∀ (td : Addr) (v1 v2 v3 : Tok) (led : Led) (h : Heap) (tk : Nat),Fr h₀ L h (lawM2 td pg tt lo v1 v2 v3 m0) → News h₀ L h led → (LD,lst ys) ∈ led → DatIn led (.ref td) D →
    Tip (wpAny (model PR w) (callerA.deeper (lawE L fa cd (dS pgm 61 1000))) (execs (List.drop 6 (dB pgm 61 1000)) (lawE L fa cd (dS pgm 61 1000))) Q (fun _ _=>False) ⟨h,gs,dr,tk,os⟩)
theorem lawM2_dup {td : Addr} {pg : List Nat} {tt t0 lo : Int} {v1 v2 v3 v4 : Tok} {m0 : Str → Option Value} : (fun y=>if y = Str.ofString "tight" then some (.int tt v4) else lawM2 td pg t0 lo v1 v2 v3 m0 y) = lawM2 td pg tt lo v4 v2 v3 m0:=by
  funext y
  by_cases h : y = Str.ofString "tight"
  · simp only [lawM2,if_pos h]
  · simp only [lawM2,if_neg h]
theorem fr_eq {h₀ h : Heap} {L : Addr} {m m' : Str → Option Value} (e : m = m') (F : Fr h₀ L h m) : Fr h₀ L h m':=e ▸ F
theorem law_r1 (w : World) {p : Program} {loose : List Str} {mean : ExcName → Option Value} {mg mb : Str → Option Value} {h₀ : Heap} {L fa : Addr} {cd : Value} {sl : Addr} {gs : Array GenState} {dr : Drawn} {os : OsState} {Q : Flow → Shared → Prop}
    (K0 : Below callerA h₀ [] h₀) (X : (KF w.params).In h₀) (T : Top p loose mean mg mb h₀)
    (hr : ∀ (way : Int) (a k m : Nat) (tr : Bool) (t1 t2 t3 t4 : Tok) (pg : List Nat) (T0 : Tr) (D : Dat) (lo ti : Int) (LD : Addr) (ys : List Value) (ls : List Int),a < 6 → k ≤ 14 + a → m < 61 → BaseR way pg T0 D lo ti → IntsAre ys ls → ls.length = m + 1 → (∀ k ∈ ls,k = 0 ∨ k = 1 ∨ k = 2) →
      LawR2 w h₀ L fa cd gs dr os Q (lawM LD sl way (14 + (a : Int)) (1 + (m : Int)) (k : Int) tr t1 t2 t3 t4) pg D lo (if 0 < k then lo + k + 1 else ti) LD ys) : LawRest w h₀ L fa cd sl gs dr os Q:=by
  intro LD way inner a m tr t1 t2 t3 t4 ys ls h tk w0 w4 ha i0 i14 hm hI hln hk F N
  refine Tip.of ?_
  obtain ⟨k,rfl⟩:=Int.eq_ofNat_of_zero_le i0
  obtain ⟨pg,T0,D,lo,ti,hB⟩:=base_row w0 w4
  obtain ⟨hBT,hlo,hti,hpg⟩:=base_t hB
  have hr':=hr way a k m tr t1 t2 t3 t4 pg T0 D lo ti LD ys ls ha (by lia) hm hB hI hln hk
  clear hr
  unfold LawR2 at hr'
  rw [show List.drop 6 (dB pgm 61 1000) = _ by conv=>lhs;whnf,show dS pgm 61 1000 = _ by conv=>lhs;whnf] at hr'
  rw [show List.drop 4 (dB pgm 61 1000) = _ by conv=>lhs;whnf,show dS pgm 61 1000 = _ by conv=>lhs;whnf]
  have hmark : Mark 1:=rfl
  repeat' (first|(k_unfold;(try dsimp only))|(k_here;(with_reducible show wpAny _ _ (exec (Stmt.If _ _ _ _) _) _ _ _);(with_reducible rename Mark 1=>qhm9');refine no_implicit_lambda% (comp_hold ?_))|(k_here;(with_reducible show wpAny _ _ (call (Value.ref 927) _) _ _ _);k_dflt (refine' no_implicit_lambda% (use_new (base_sat _ (‹BaseR _ _ _ _ _ _›) _) ?B ?F ?X ?N ?T ?kk ?dd ?uu ?_);tb_rel);intro qr' qtl' qh' qtk' qF' qN' qhV' qhO';(refine no_implicit_lambda% (gen fun qG qhG=>?_));k_dflt (obtain ⟨qtp',qtd',qu1',qu2',qu3',qe9',qmt',qhD'⟩:=qhV');subst qe9';(refine no_implicit_lambda% (qhG ?_));(clear qhG);(try simp only [List.cons_append,List.nil_append,List.append_assoc] at qN');(try k_sweep))|walk1|(refine StD.nx (by with_reducible assumption) _ ?_)|(refine StD.rt (by with_reducible assumption) _ _ ?_)|(refine Ups.up (by with_reducible assumption) _ _ ?_;(try dsimp only))|(k_end;wrow_close)|dsimp only|(leave1;try dsimp only))
  unfold Held
  rename Mark 1=>hmark
  clear hmark
  rename DatIn _ _ _=>D9
  by_cases hk0 : 0 < k
  · rw [if_pos hk0] at hr'
    repeat' ((fail_if_success (with_reducible show wpAny _ _ (execs (Stmt.Assign [PySem.Expr.Name (PySem.Str.ofString "known") _] _ _ :: _) _) _ _ _));first|(k_unfold;(try dsimp only))|walk1|(refine StD.nx (by with_reducible assumption) _ ?_)|(refine StD.rt (by with_reducible assumption) _ _ ?_)|(refine Ups.up (by with_reducible assumption) _ _ ?_;(try dsimp only))|(k_end;wrow_close)|(dsimp only;walk1)|(leave1;try dsimp only))
    rename Fr _ _ _ _=>F9
    rename News _ _ _ _=>N9
    exact no_implicit_lambda% (hr' _ _ _ _ _ _ _ (fr_eq lawM2_dup F9) N9 (.head _) (D9.mono fun q hq=>.tail _ hq)).out
  · rw [if_neg hk0] at hr'
    repeat' ((fail_if_success (with_reducible show wpAny _ _ (execs (Stmt.Assign [PySem.Expr.Name (PySem.Str.ofString "known") _] _ _ :: _) _) _ _ _));first|(k_unfold;(try dsimp only))|walk1|(refine StD.nx (by with_reducible assumption) _ ?_)|(refine StD.rt (by with_reducible assumption) _ _ ?_)|(refine Ups.up (by with_reducible assumption) _ _ ?_;(try dsimp only))|(k_end;wrow_close)|(dsimp only;walk1)|(leave1;try dsimp only))
    rename Fr _ _ _ _=>F9
    rename News _ _ _ _=>N9
    exact no_implicit_lambda% (hr' _ _ _ _ _ _ _ F9 N9 (.head _) (D9.mono fun q hq=>.tail _ hq)).out
set_option maxHeartbeats 2000000
theorem execs_hold {prog : Program} {w : World} {A : Around} {E : Value → Shared → Prop} {s : Shared} {env : Env} {st : List Stmt} {Q : Flow → Shared → Prop} (h : Held (wpAny (model prog w) A (execs st env) Q E s)) : wpAny (model prog w) A (execs st env) Q E s:=h
abbrev LM (base : Str → Option Value) (pg : Value) (c1 c2 c3 : Option Value) : Str → Option Value:=fun y=>if y = Str.ofString "page" then some pg else if y = Str.ofString "lap" then c1 else if y = Str.ofString "called" then c2 else if y = Str.ofString "needed" then c3 else base y
theorem lm_of {f base : Str → Option Value} {pg : Value} {c1 c2 c3 : Option Value} (h1 : f (Str.ofString "page") = some pg) (h2 : f (Str.ofString "lap") = c1) (h3 : f (Str.ofString "called") = c2) (h4 : f (Str.ofString "needed") = c3)
    (h : ∀ y,y ≠ Str.ofString "page" → y ≠ Str.ofString "lap" → y ≠ Str.ofString "called" → y ≠ Str.ofString "needed" → f y = base y) : f = LM base pg c1 c2 c3:=by
  funext y
  by_cases e1 : y = Str.ofString "page"
  · subst e1;rw [h1];rfl
  · by_cases e2 : y = Str.ofString "lap"
    · subst e2;rw [h2];rfl
    · by_cases e3 : y = Str.ofString "called"
      · subst e3;rw [h3];rfl
      · by_cases e4 : y = Str.ofString "needed"
        · subst e4;rw [h4];rfl
        · rw [h y e1 e2 e3 e4];simp only [LM,if_neg e1,if_neg e2,if_neg e3,if_neg e4]
abbrev lawM3 (dk td : Addr) (pg : List Nat) (tt lo : Int) (v1 v2 v3 : Tok) (m0 : Str → Option Value) : Str → Option Value:=fun y=>if y = Str.ofString "known" then some (.ref dk) else lawM2 td pg tt lo v1 v2 v3 m0 y
def LawR3 (w : World) (h₀ : Heap) (L fa : Addr) (cd : Value) (gs : Array GenState) (dr : Drawn) (os : OsState) (Q : Flow → Shared → Prop) (m0 : Str → Option Value) (pg : List Nat) (T0 : Tr) (k : Nat) (D : Dat) (lo tt : Int) (LD : Addr) (ys : List Value) : Prop :=
  ∀ (td dk : Addr) (v1 v2 v3 v4 v5 : Tok) (o : Obj) (b : Value) (led : Led) (h : Heap) (tk : Nat),Fr h₀ L h (fun y=>if y = Str.ofString "page" then some (.str (Str.ofString "{D0}") v4) else lawM3 dk td pg tt lo v1 v2 v3 m0 y) → News h₀ L h ((dk,o) :: led) → (LD,lst ys) ∈ led → DatIn led (.ref td) D → NodeIn led (aboutT k T0) b → Off led dk → (dk == sysModules) = false → o.IsDictOf (PySem.strKind PR w) (strPairs [(.str (Str.ofString "D0") v5,b)]) →
    Tip (wpAny (model PR w) (callerA.deeper (lawE L fa cd (dS pgm 61 1000))) (execs (List.drop 9 (dB pgm 61 1000)) (lawE L fa cd (dS pgm 61 1000))) Q (fun _ _=>False) ⟨h,gs,dr,tk,os⟩)
theorem law_r2 (w : World) {p : Program} {loose : List Str} {mean : ExcName → Option Value} {mg mb : Str → Option Value} {h₀ : Heap} {L fa : Addr} {cd : Value} {sl : Addr} {gs : Array GenState} {dr : Drawn} {os : OsState} {Q : Flow → Shared → Prop}
    (K0 : Below callerA h₀ [] h₀) (X : (KF w.params).In h₀) (T : Top p loose mean mg mb h₀)
    {way : Int} {a k m : Nat} {tr : Bool} {t1 t2 t3 t4 : Tok} {pg : List Nat} {T0 : Tr} {D : Dat} {lo ti tt : Int} {LD : Addr} {ys : List Value} {ls : List Int} (ha : a < 6) (hk : k ≤ 14 + a) (hm : m < 61) (hB : BaseR way pg T0 D lo ti)
    (hr : LawR3 w h₀ L fa cd gs dr os Q (lawM LD sl way (14 + (a : Int)) (1 + (m : Int)) (k : Int) tr t1 t2 t3 t4) pg T0 k D lo tt LD ys) :
    LawR2 w h₀ L fa cd gs dr os Q (lawM LD sl way (14 + (a : Int)) (1 + (m : Int)) (k : Int) tr t1 t2 t3 t4) pg D lo tt LD ys:=by
  intro td v1 v2 v3 led h tk F N hLD hD
  refine Tip.of ?_
  obtain ⟨hBT,hlo,hti,hpg⟩:=base_t hB
  obtain ⟨g0,nm,hL0,hd0,e0,e2,l0,ti0⟩:=base_lv w hB k
  have hlen : (aboutL k pg).length ≤ 900:=by rw [aboutL_len];lia
  have H0 : ∀ u,Sat w 941 430 [.str (tL (aboutL k pg)) u,.none] [] (RO [] (fun tl r=>NodeIn tl (aboutT k T0) r)):=fun u=>heard_lo (rd_base w hB (by lia) [] .none) (fun tl r h=>h) (hL0.up (by lia)) hlen rfl (by rw [e0];lia)
  have hmark : Mark 3:=rfl
  unfold LawR3 at hr
  rw [show List.drop 9 (dB pgm 61 1000) = _ by conv=>lhs;whnf,show dS pgm 61 1000 = _ by conv=>lhs;whnf] at hr
  rw [show List.drop 6 (dB pgm 61 1000) = _ by conv=>lhs;whnf,show dS pgm 61 1000 = _ by conv=>lhs;whnf]
  repeat' (first|(k_unfold;(try dsimp only))|(k_here;(with_reducible rename Mark 3=>qhm9');(with_reducible show wpAny _ _ (execs (Stmt.For _ _ _ _ _ :: _) _) _ _ _);refine no_implicit_lambda% (execs_hold ?_))|((with_reducible show wpAny _ _ (call _ _) _ _ _);first|(k_here;(with_reducible show wpAny _ _ (call _ [Value.ref _,Value.type "int"]) _ _ _);k_dflt (refine' no_implicit_lambda% (isi_int (‹hdT _ = some _›) (‹NodeIn _ _ (Value.ref _)›) ?hs ?F ?X ?N ?_);(case F=>k_asm);(case X=>k_asm);(case N=>k_asm);(case hs=>lcg_sub));intro qtk')|(k_here;(with_reducible show wpAny _ _ (call (Value.ref 941) _) _ _ _);k_dflt (refine' no_implicit_lambda% (use_ronV (fun _ _ h=>ref_of (‹hdT _ = some _›) h) ((‹∀ u,Sat _ 941 430 [Value.str _ u,_] _ (RO _ _)›) _) ?hs ?B ?F ?X ?N ?T ?kk ?dd ?uu ?_);tb_rel;(case hs=>lcg_sub));intro qb9' qtl' qh' qtk' qF' qN' qhV' qhO';(try simp only [List.cons_append,List.nil_append,List.append_assoc] at qN');(try k_sweep))|(k_here;(with_reducible show wpAny _ _ (call (Value.ref 934) _) _ _ _);k_dflt (refine' no_implicit_lambda% (use_str (about_sat _ ?hl ?hk) trivial rfl ?B ?F ?X ?N ?T ?kk ?dd ?uu ?_);tb_rel;(case hl=>lia);(case hk=>lia));intro qt' qh' qtk' qF' qN';(try k_sweep)))|walk1|(refine StD.nx (by with_reducible assumption) _ ?_)|(refine StD.rt (by with_reducible assumption) _ _ ?_)|(refine Ups.up (by with_reducible assumption) _ _ ?_;(try dsimp only))|(k_end;wrow_close)|dsimp only|(leave1;try dsimp only))
  unfold Held
  rename Fr _ _ _ _=>F9
  rename News _ _ _ _=>N9
  rename NodeIn _ _ _=>n9
  rename AllLt _ _=>l9
  rename AllOff _ _=>O9
  refine Tip.out (hr _ _ _ _ _ _ _ _ _ _ _ _ F9 N9 (List.mem_append_left _ hLD) (hD.mono fun q hq=>List.mem_append_left _ hq) (n9.up fun q hq=>List.mem_append_right _ hq) ?off (by assumption) (by assumption))
  case off=>exact Off.app (fun q hq=>Nat.ne_of_lt (allLt_mem l9 q hq)) (fun q hq=>O9.mem _ (.head _) q hq)
set_option maxHeartbeats 2000000
abbrev pgL (q i : Nat) (ls : List Int) : List Nat:=123 :: 68 :: (48 + q) :: 125 :: ((ls.drop (20 * q)).take (i - 20 * q)).map sgnL
abbrev lapT (T0 : Tr) (k i : Nat) (ls : List Int) : Tr:=treeR T0 ((ls.take i).reverse ++ List.replicate k 3)
theorem lapT_split {T0 : Tr} {k q i : Nat} {ls : List Int} (h : 20 * q ≤ i) : lapT T0 k i ls = treeR (lapT T0 k (20 * q) ls) ((ls.drop (20 * q)).take (i - 20 * q)).reverse:=by
  have e : ls.take i = ls.take (20 * q) ++ (ls.drop (20 * q)).take (i - 20 * q):=by
    rw [← List.take_add,show 20 * q + (i - 20 * q) = i by lia]
  show treeR T0 ((ls.take i).reverse ++ List.replicate k 3) = treeR (treeR T0 ((ls.take (20 * q)).reverse ++ List.replicate k 3)) _
  rw [e,List.reverse_append,List.append_assoc,treeR_app]
theorem lapT_lv (w : World) {way : Int} {pg : List Nat} {T0 : Tr} {D : Dat} {lo ti : Int} (hB : BaseR way pg T0 D lo ti) {k i : Nat} {ls : List Int} (hk : k ≤ 19) (hls : ∀ k ∈ ls,k = 0 ∨ k = 1 ∨ k = 2) (hi : i < ls.length) (hl : ls.length ≤ 61) :
    LvW w (lapT T0 k (i + 1) ls) (fun _=>(if 0 < k then lo + k + 1 else ti) + (i : Int) / 20) (30 + 16 * k):=by
  obtain ⟨g,nm,hL,hd,e0,e2,_,_⟩:=base_lv w hB k
  have:=lvw_loops (ls:=(ls.take (i + 1)).map sgnL) (mn:=i) hL hd (by rw [List.length_map,List.length_take];lia) (by lia)
  rw [loops_tree _ _ (fun x hx=>hls x (List.mem_of_mem_take hx)),e2] at this
  rw [show lapT T0 k (i + 1) ls = treeR (aboutT k T0) (ls.take (i + 1)).reverse from treeR_app _ _ _]
  exact this.up (by lia)
theorem lapT_hd {T0 : Tr} {k i : Nat} {ls : List Int} (hls : ∀ k ∈ ls,k = 0 ∨ k = 1 ∨ k = 2) (hi : i < ls.length) : ∃ nm,hdT (lapT T0 k (i + 1) ls) = some (nm,true) ∧ (Str.ofString nm == Str.ofString "alt") = false ∧ (Str.ofString nm == Str.ofString "cat") = false:=by
  have e : (ls.take (i + 1)).reverse = ls[i] :: (ls.take i).reverse:=by
    rw [List.take_add_one,List.getElem?_eq_getElem hi];simp
  show ∃ nm,hdT (treeR T0 ((ls.take (i + 1)).reverse ++ List.replicate k 3)) = some (nm,true) ∧ _
  rw [e]
  rcases hls _ (List.getElem_mem hi) with h | h | h <;> rw [h] <;> exact ⟨_,rfl,by decide +kernel,by decide +kernel⟩
section
variable (w : World) {dk : Addr} {o : Obj} {kvs : List (Str × Value)} {rest : Led} {q i k : Nat} {v : Value} {ls : List Int} {T0 : Tr}
theorem lap_rd (hd : o.IsDictOf (PySem.strKind PR w) kvs) (hs : (dk == sysModules) = false) (hv : valueAt kvs (⟨#[68,48 + q]⟩ : Str) = some v) (hq : q ≤ 3) (hls : ∀ k ∈ ls,k = 0 ∨ k = 1 ∨ k = 2) (hi : i ≤ 20 * q + 20) {j : Nat} (hj : j ≤ 19) :
    RdAll w ((dk,o) :: rest) (.ref dk) (aboutL j (pgL q i ls)) (aboutT j (treeR (.hole v) ((ls.drop (20 * q)).take (i - 20 * q)).reverse)) :=
  rd_def w hd hs (by lia) (by lia) hv (fun x hx=>hls x (List.mem_of_mem_drop (List.mem_of_mem_take hx))) (by rw [List.length_take];lia) hj
theorem lap_plug (hn : NodeIn rest (lapT T0 k (20 * q) ls) v) (h : 20 * q ≤ i) (j : Nat) (tl : Led) (r : Value) (hr : NodeIn tl (aboutT j (treeR (.hole v) ((ls.drop (20 * q)).take (i - 20 * q)).reverse)) r) : NodeIn (((dk,o) :: rest) ++ tl) (aboutT j (lapT T0 k i ls)) r:=by
  rw [show aboutT j (treeR (.hole v) ((ls.drop (20 * q)).take (i - 20 * q)).reverse) = treeR (.hole v) (List.replicate j 3 ++ ((ls.drop (20 * q)).take (i - 20 * q)).reverse) from (treeR_app _ _ _).symm] at hr
  have:=treeR_plug (hn.up fun x hx=>List.mem_cons_of_mem (dk,o) hx) hr
  rwa [treeR_app,← lapT_split h] at this
theorem lap_plug' (hn : NodeIn rest (lapT T0 k (20 * q) ls) v) (h : 20 * q ≤ i) (j : Nat) (tl : Led) (r : Value) (hr : NodeIn tl (aboutT j (treeR (.hole v) ((ls.drop (20 * q)).take (i - 20 * q)).reverse)) r) : NodeIn (rest ++ tl) (aboutT j (lapT T0 k i ls)) r:=by
  rw [show aboutT j (treeR (.hole v) ((ls.drop (20 * q)).take (i - 20 * q)).reverse) = treeR (.hole v) (List.replicate j 3 ++ ((ls.drop (20 * q)).take (i - 20 * q)).reverse) from (treeR_app _ _ _).symm] at hr
  have:=treeR_plug hn hr
  rwa [treeR_app,← lapT_split h] at this
end
theorem lapT_lvj (w : World) {way : Int} {pg : List Nat} {T0 : Tr} {D : Dat} {lo ti : Int} (hB : BaseR way pg T0 D lo ti) {k i j : Nat} {ls : List Int} (hk : k + j ≤ 19) (hls : ∀ k ∈ ls,k = 0 ∨ k = 1 ∨ k = 2) (hi : i < ls.length) (hl : ls.length ≤ 61) :
    ∃ g,LvW w (aboutT j (lapT T0 k (i + 1) ls)) g 400 ∧ g 0 = (if 0 < k then lo + k + 1 else ti) + (i : Int) / 20 + j ∧ g 2 = (if 0 < k then lo + k + 1 else ti) + (i : Int) / 20 + j + (if 0 < j then 1 else 0):=by
  have hL:=lapT_lv w hB (k:=k) (by lia) hls hi hl
  obtain ⟨nm,hd,ha,_⟩:=lapT_hd (T0:=T0) (k:=k) hls hi
  obtain ⟨_,_,_,_,_,_,l0,ti0⟩:=base_lv w hB k
  cases j with
  | zero=>exact ⟨_,hL.up (by lia),by simp,by simp⟩
  | succ j =>
    obtain ⟨g,h1,h2,h3,h4⟩:=about_lv hL hd ha (by split <;> lia) (by lia) j
    exact ⟨g,h1.up (by lia),by rw [h2];simp;lia,by rw [h4];simp;lia⟩
theorem heard_raw {w : World} {ex : Led} {dv : Value} {mid : List Nat} {T T' : Tr} {f : Int → Int} {u : Tok} (hR : RdAll w ex dv mid T) (hT : ∀ tl r,NodeIn tl T r → NodeIn (ex ++ tl) T' r) (hL : LvW w T' f 400) (hl : mid.length ≤ 900) (hdv : handedIn dv = true) (hf : f 0 ≤ 20) :
    Sat w 941 430 [.str (tL mid) u,dv] ex (RO ex (fun tl r=>NodeIn tl T r)):=by
  have ha:=at_pre [] mid
  have he:=at_pre mid []
  rw [List.append_nil] at he
  have h0:=hR false (tL mid) 0 [] (by rw [tL_len];lia) (by rw [List.append_nil];exact ha) trivial (by decide +kernel)
  rw [Int.zero_add] at h0
  exact heard_ok w (read_ok w h0 (by rw [tL_len];lia) he (fun tl r hr=>hL _ _ (hT tl r hr)) hf hdv)
theorem aboutL_zero (l : List Nat) : aboutL 0 l = l:=by simp [aboutL,repN]
section
variable (w : World) {dk : Addr} {o : Obj} {kvs : List (Str × Value)} {rest : Led} {q i k j : Nat} {v : Value} {ls : List Int} {T0 : Tr} {way : Int} {pg : List Nat} {D : Dat} {lo ti : Int}
  (hB : BaseR way pg T0 D lo ti) (hk : k + j ≤ 19) (hl : ls.length ≤ 61)
  (hd : o.IsDictOf (PySem.strKind PR w) kvs) (hs : (dk == sysModules) = false) (hv : valueAt kvs (⟨#[68,48 + q]⟩ : Str) = some v) (hq : q ≤ 3) (hls : ∀ k ∈ ls,k = 0 ∨ k = 1 ∨ k = 2) (hn : NodeIn rest (lapT T0 k (20 * q) ls) v)
  (h1 : 20 * q ≤ i + 1) (h2 : i + 1 ≤ 20 * q + 20) (hi : i < ls.length)
include hB hk hl hd hs hv hq hls hn h1 h2 hi
theorem lap_len : (aboutL j (pgL q (i + 1) ls)).length ≤ 900:=by
  rw [aboutL_len]
  have : (pgL q (i + 1) ls).length ≤ 100:=by
    show (_ :: _ :: _ :: _ :: _ : List Nat).length ≤ 100
    simp only [List.length_cons,List.length_map,List.length_take,List.length_drop];lia
  lia
theorem lap_lo (hf : (if 0 < k then lo + k + 1 else ti) + (i : Int) / 20 + j ≤ 20) (u : Tok) :
    Sat w 941 430 [.str (tL (aboutL j (pgL q (i + 1) ls))) u,.ref dk] ((dk,o) :: rest) (RO ((dk,o) :: rest) (fun tl r=>NodeIn (rest ++ tl) (aboutT j (lapT T0 k (i + 1) ls)) r)):=by
  obtain ⟨g,hg,e0,_⟩:=lapT_lvj w hB hk hls hi hl
  refine (heard_raw (lap_rd w hd hs hv hq hls h2 (by lia)) (lap_plug hn h1 j) hg (lap_len w hB hk hl hd hs hv hq hls hn h1 h2 hi) rfl (by rw [e0];exact hf)).rw ?_
  rintro v' o' ⟨tl,e,hr,hO⟩
  exact ⟨tl,e,lap_plug' hn h1 j tl v' hr,hO⟩
theorem lap_hi (hf : 20 < (if 0 < k then lo + k + 1 else ti) + (i : Int) / 20 + j) (u : Tok) :
    SatT w 941 430 [.str (tL (aboutL j (pgL q (i + 1) ls))) u,.ref dk] ((dk,o) :: rest) (fun r own'=>(∃ t,r = .int 0 t) ∧ own' = ((dk,o) :: rest)):=by
  obtain ⟨g,hg,e0,_⟩:=lapT_lvj w hB hk hls hi hl
  exact heard_hi (lap_rd w hd hs hv hq hls h2 (by lia)) (lap_plug hn h1 j) hg (lap_len w hB hk hl hd hs hv hq hls hn h1 h2 hi) rfl (by rw [e0];exact hf)
end
set_option maxHeartbeats 2000000
def LapJ (w : World) (base : Str → Option Value) (td dk LD : Addr) (T0 : Tr) (k : Nat) (D : Dat) (ys : List Value) (ls : List Int) (i : Nat) (m : Str → Option Value) (news : Led) : Prop :=
  ∃ (q : Nat) (v : Value) (o : Obj) (kvs : List (Str × Value)) (rest : Led) (u : Tok) (c1 c2 c3 : Option Value),news = (dk,o) :: rest ∧ m = LM base (.str (tL (pgL q i ls)) u) c1 c2 c3 ∧ o.IsDictOf (PySem.strKind PR w) kvs ∧ valueAt kvs (⟨#[68,48 + q]⟩ : Str) = some v ∧ kvs.length ≤ q + 1 ∧ q ≤ 3 ∧ 20 * q ≤ i ∧ i ≤ 20 * q + 20 ∧ (0 < q → 20 * q < i) ∧
    NodeIn rest (lapT T0 k (20 * q) ls) v ∧ (LD,lst ys) ∈ rest ∧ DatIn rest (.ref td) D ∧ Off rest dk
theorem pgL_snoc {q i : Nat} {ls : List Int} {x : Int} (h1 : 20 * q ≤ i) (hx : ls[i]? = some x) : pgL q i ls ++ [sgnL x] = pgL q (i + 1) ls:=by
  show 123 :: 68 :: (48 + q) :: 125 :: (((ls.drop (20 * q)).take (i - 20 * q)).map sgnL ++ [sgnL x]) = _
  have : (ls.drop (20 * q)).take (i + 1 - 20 * q) = (ls.drop (20 * q)).take (i - 20 * q) ++ [x]:=by
    rw [show i + 1 - 20 * q = (i - 20 * q) + 1 by lia,List.take_add_one,List.getElem?_drop,show 20 * q + (i - 20 * q) = i by lia,hx];rfl
  show _ = 123 :: 68 :: (48 + q) :: 125 :: (((ls.drop (20 * q)).take (i + 1 - 20 * q)).map sgnL)
  rw [this,List.map_append];rfl
def LawR4 (w : World) (h₀ : Heap) (L fa : Addr) (cd : Value) (gs : Array GenState) (dr : Drawn) (os : OsState) (Q : Flow → Shared → Prop) (m0 : Str → Option Value) (pg : List Nat) (T0 : Tr) (k m : Nat) (D : Dat) (lo tt : Int) (LD : Addr) (ys : List Value) (ls : List Int) : Prop :=
  ∀ (td dk : Addr) (v1 v2 v3 : Tok) (news : Led) (mm : Str → Option Value) (h : Heap) (tk : Nat),Fr h₀ L h mm → News h₀ L h news → LapJ w (lawM3 dk td pg tt lo v1 v2 v3 m0) td dk LD T0 k D ys ls (m + 1) mm news → (dk == sysModules) = false →
    Tip (wpAny (model PR w) (callerA.deeper (lawE L fa cd (dS pgm 61 1000))) (execs (List.drop 10 (dB pgm 61 1000)) (lawE L fa cd (dS pgm 61 1000))) Q (fun _ _=>False) ⟨h,gs,dr,tk,os⟩)
theorem val_map {k : Str} {v : Value} : ∀ (kvs : List (Str × Value)),kvs.any (fun kv=>kv.1 = k) = true → valueAt (kvs.map (fun kv=>if kv.1 = k then (kv.1,v) else kv)) k = some v
  | [],h=>by cases h
  | a :: r,h=>by
    by_cases e : a.1 = k
    · simp [valueAt,e]
    · have:=val_map (k:=k) (v:=v) r (by simpa [e] using h)
      simpa [valueAt,e] using this
theorem val_stored {kvs : List (Str × Value)} {k : Str} {v : Value} : valueAt (stored kvs k v) k = some v:=by
  unfold stored
  split
  · exact val_map kvs ‹_›
  · rename_i h
    have : kvs.find? (fun kv=>decide (kv.1 = k)) = none:=by
      rw [List.find?_eq_none];intro x hx hk;exact h (List.any_eq_true.mpr ⟨x,hx,hk⟩)
    simp [valueAt,List.find?_append,this]
theorem str_digit {prog : Program} {w : World} {A : Around} {E : Value → Shared → Prop} {s : Shared} {Q : Value → Shared → Prop} {a : Int} {t : Tok} {d : Nat} (e : a = ((d : Nat) : Int)) (h1 : d = 1 ∨ d = 2 ∨ d = 3) (h : ∀ t' k,Q (.str (tL [48 + d]) t') { s with toks:=k }) : wpAny (model prog w) A (call (.type "str") [.int a t]) Q E s:=by
  subst e
  have e1 : Str.ofString (toString ((d : Nat) : Int)) = tL [48 + d]:=by rcases h1 with rfl | rfl | rfl <;> decide +kernel
  refine P.str_of_int ?_ ?_
  · rcases h1 with rfl | rfl | rfl <;> decide +kernel
  · show Q (.str (Str.ofString (toString ((d : Nat) : Int))) _) _
    rw [e1];exact h _ _
theorem News.part {h₀ h : Heap} {L : Addr} {q : Addr × Obj} {news : Led} (N : News h₀ L h (q :: news)) : News h₀ L h news:=fun p hp=>N p (.tail _ hp)
theorem vs_of {w : World} {o : Obj} {kvs : List (Str × Value)} {k : Str} {v : Value} (h : o.IsDictOf (PySem.strKind PR w) (stored kvs k v)) : valueAt (stored kvs k v) k = some v:=val_stored
theorem sl_of {w : World} {o : Obj} {kvs : List (Str × Value)} {k : Str} {v : Value} (h : o.IsDictOf (PySem.strKind PR w) (stored kvs k v)) : (stored kvs k v).length ≤ kvs.length + 1:=stored_length_le _ _ _
theorem fr_un {fs : List Addr} {h₀ h₁ h : Heap} {L : Addr} {m : Str → Option Value} (T : KtsTurn [] h₀ h₁) (F : Fr h₁ L h m) : Fr h₀ L h m:=⟨F.ns,fun b o e=>F.keep b o (T.other b o e (by simp)),T.size ▸ F.above⟩
theorem news_un {h₀ h₁ h : Heap} {L : Addr} {news : Led} (T : KtsTurn [] h₀ h₁) (N : News h₁ L h news) : News h₀ L h news:=fun q hq=>⟨(N q hq).1,(N q hq).2.1,by
  cases e : h₀.get? q.1 with
  | none=>rfl
  | some o=>have:=(N q hq).2.2;rw [T.other _ _ e (by simp)] at this;cases this⟩
theorem use_satT0 {w : World} {f : Addr} {n : Nat} {vs : List Value} {own news : Led} {V : Value → Prop} {p : Program} {loose : List Str} {mean : ExcName → Option Value} {mg mb : Str → Option Value} {dp un : Nat} {gd : Option (List Code)} {cn : Str} {cs : Scope} {a : Addr} {ccd : Value} {cl : List (Str × Addr)} {A₀ : Around} {h₀ : Heap} {L : Addr} {m : Str → Option Value} {s : Shared} {Q E : Value → Shared → Prop}
    (S : SatT w f n vs own (fun r own'=>V r ∧ own' = own)) (hs : ∀ q ∈ own,q ∈ news) (B : Below A₀ h₀ [] h₀) (F : Fr h₀ L s.heap m) (X : (KF w.params).In h₀) (N : News h₀ L s.heap news) (T : Top p loose mean mg mb h₀) (hk : cs.kind = .function) (hd : dp + n < recursionLimit) (hu : un + 8 * n < cLine)
    (ret : ∀ r h' tk',Fr h₀ L h' m → News h₀ L h' news → V r → Q r { s with heap:=h',toks:=tk' }) :
    wpAny (model PR w) (ktrTop dp un gd cn cs L a ccd cl []) (call (.ref f) vs) Q E s :=
  use_satT S hs B F X N T hk hd hu X T fun r h' tk' h₁ T' _ F' _ N' _ hV=>ret r h' tk' (fr_un (fs:=[]) T' F') (news_un T' N') hV
theorem law_r3 (w : World) {p : Program} {loose : List Str} {mean : ExcName → Option Value} {mg mb : Str → Option Value} {h₀ : Heap} {L fa : Addr} {cd : Value} {sl : Addr} {gs : Array GenState} {dr : Drawn} {os : OsState} {Q : Flow → Shared → Prop}
    (K0 : Below callerA h₀ [] h₀) (X : (KF w.params).In h₀) (T : Top p loose mean mg mb h₀)
    {way : Int} {a k m : Nat} {tr : Bool} {t1 t2 t3 t4 : Tok} {pg : List Nat} {T0 : Tr} {D : Dat} {lo ti tt : Int} {LD : Addr} {ys : List Value} {ls : List Int} (ha : a < 6) (hk : k ≤ 14 + a) (hm : m < 61) (hB : BaseR way pg T0 D lo ti) (hI : IntsAre ys ls) (hln : ls.length = m + 1) (hls : ∀ k ∈ ls,k = 0 ∨ k = 1 ∨ k = 2)
    (htt : tt = if 0 < k then lo + k + 1 else ti)
    (hQ : ∀ (h : Heap) (tk : Nat) (m' : Str → Option Value) (news : Led),Fr h₀ L h m' → News h₀ L h news → Q (.ret (.bool true)) ⟨h,gs,dr,tk,os⟩)
    (hr : LawR4 w h₀ L fa cd gs dr os Q (lawM LD sl way (14 + (a : Int)) (1 + (m : Int)) (k : Int) tr t1 t2 t3 t4) pg T0 k m D lo tt LD ys ls) :
    LawR3 w h₀ L fa cd gs dr os Q (lawM LD sl way (14 + (a : Int)) (1 + (m : Int)) (k : Int) tr t1 t2 t3 t4) pg T0 k D lo tt LD ys:=by
  intro td dk v1 v2 v3 v4 v5 o b led h tk F N hLD hD hT hoff hsys hd
  refine Tip.of ?_
  have hmark : Mark 2:=rfl
  unfold LawR4 at hr
  rw [show List.drop 10 (dB pgm 61 1000) = _ by conv=>lhs;whnf,show dS pgm 61 1000 = _ by conv=>lhs;whnf] at hr
  rw [show List.drop 9 (dB pgm 61 1000) = _ by conv=>lhs;whnf,show dS pgm 61 1000 = _ by conv=>lhs;whnf]
  repeat' (first|(k_unfold;(try dsimp only))|(k_here;(with_reducible show wpAny _ _ (exec (Stmt.For (PySem.Expr.Name _ _) (PySem.Expr.Call _ _ _ _) _ _ _) _) _ _ _);(with_reducible rename Mark 2=>qhm9');refine no_implicit_lambda% (comp_hold ?_))|walk1|(refine StD.nx (by with_reducible assumption) _ ?_)|(refine StD.rt (by with_reducible assumption) _ _ ?_)|(refine Ups.up (by with_reducible assumption) _ _ ?_;(try dsimp only))|(k_end;wrow_close)|dsimp only|(leave1;try dsimp only))
  unfold Held
  rename Mark 2=>hmark
  clear hmark
  repeat' ((fail_if_success (with_reducible show wpAny _ _ (pyIter _) _ _ _));first|(k_unfold;(try dsimp only))|(k_here;(with_reducible show wpAny _ _ (exec (Stmt.For (PySem.Expr.Name _ _) (PySem.Expr.Call _ _ _ _) _ _ _) _) _ _ _);(rename Fr _ _ _ _=>qlF');(with_unfolding_all refine' no_implicit_lambda% (For_turns qlF' ?_);k_whole))|walk1|(refine StD.nx (by with_reducible assumption) _ ?_)|(refine StD.rt (by with_reducible assumption) _ _ ?_)|(refine Ups.up (by with_reducible assumption) _ _ ?_;(try dsimp only))|(k_end;wrow_close)|dsimp only|(leave1;try dsimp only))
  rename IsRange _ _ _ _ _ _ _ _=>hR
  rename Fr _ _ _ _=>F9
  rename News _ _ _ _=>N9
  have er : Builtin.Range.rangeSize 0 (1 + (m : Int)) 1 = ((m + 1 : Nat) : Int):=by
    rw [rangeSize_nat];lia
  refine range_turns hR (small_one (by decide) (by decide) (by lia) (by lia)) er (by rfl) F9 N9 (LapJ w (lawM3 dk td pg tt lo v1 v2 v3 (lawM LD sl way (14 + (a : Int)) (1 + (m : Int)) (k : Int) tr t1 t2 t3 t4)) td dk LD T0 k D ys ls) ?h0 ?step ?fin
  case h0 =>
    have e4 : Str.ofString "{D0}" = tL [123,68,48,125]:=by decide +kernel
    refine ⟨0,b,o,_,led,v4,none,none,none,rfl,?_,hd,?_,Nat.le_refl 1,by lia,by lia,by lia,fun h=>absurd h (by lia),hT,hLD,hD,hoff⟩
    · have e5 : Str.ofString "{D0}" = tL (pgL 0 0 ls):=by rw [e4];simp [pgL]
      rw [← e5]
      exact lm_of rfl rfl rfl rfl fun y a b c d=>by simp only [if_neg a]
    · show valueAt [(Str.ofString "D0",b)] _ = _
      rw [show (⟨#[68,48 + 0]⟩ : Str) = Str.ofString "D0" by decide +kernel]
      simp [valueAt]
  case fin =>
    intro h' tk' m' news' F' N' J'
    refine StD.nx (by with_reducible assumption) _ ?_
    exact no_implicit_lambda% (hr _ _ _ _ _ _ _ _ _ F' N' J' hsys).out
  case step =>
    clear hR F9 N9
    intro i y m₁ news₁ h₁ tk₁ I oI hi J F₁ N₁ off'
    refine gen fun G hG=>?_
    obtain ⟨q,v,o',kvs,rest,u,c1,c2,c3,rfl,rfl,hd',hv,hkl,hq,hqi,hiq,hqi',hn,hLD',hD',ho'⟩:=J
    obtain ⟨x,t,ex,ey⟩ : ∃ x t,ls[i]? = some x ∧ nthV ys (0 + (i : Int)).toNat = some (.int x t):=by
      have hlt : i < ys.length:=by have:=(ints_look hI).1;lia
      obtain ⟨x,t,e1,e2⟩:=(ints_look hI).2 i ys[i] (List.getElem?_eq_getElem hlt)
      exact ⟨x,t,e1,by rw [nthV_eq,show (0 + (i : Int)).toNat = i by lia,List.getElem?_eq_getElem hlt,e2]⟩
    have hx:=hls x (List.mem_of_getElem? ex)
    clear hr
    have hst : At (Str.ofString "*+?") x (sgnL x :: (([42,43,63] : List Nat).drop (x.toNat + 1))):=by
      rcases hx with rfl | rfl | rfl
      · exact ⟨by decide,by decide,by decide +kernel⟩
      · exact ⟨by decide,by decide,by decide +kernel⟩
      · exact ⟨by decide,by decide,by decide +kernel⟩
    have hstl : (Str.ofString "*+?").length ≤ 1000:=by decide
    by_cases hs : 0 < i ∧ i % 20 = 0
    · obtain ⟨h0,h20⟩:=hs
      obtain ⟨j,rfl⟩ : ∃ j,i = j + 1:=⟨i - 1,by lia⟩
      have ej : j + 1 = 20 * q + 20:=by lia
      have hfm : (0 + ((j + 1 : Nat) : Int)).fmod 20 = 0:=by
        rw [Int.fmod_eq_emod_of_nonneg _ (by lia)]
        lia
      have hS:=lap_lo w (i:=j) (j:=0) hB (by lia) (by lia) hd' hsys hv hq hls hn (by lia) (by lia) (by lia)
      have hH:=lap_hi w (i:=j) (j:=0) hB (by lia) (by lia) hd' hsys hv hq hls hn (by lia) (by lia) (by lia)
      rw [aboutL_zero,← htt] at hS hH
      have hfd : (0 + ((j + 1 : Nat) : Int)).fdiv 20 = ((q + 1 : Nat) : Int):=by
        rw [Int.fdiv_eq_ediv_of_nonneg _ (by lia)]
        lia
      have lD : Str.ofString "D" = tL [68]:=by decide +kernel
      have lB : Str.ofString "{" = tL [123]:=by decide +kernel
      have lE : Str.ofString "}" = tL [125]:=by decide +kernel
      obtain ⟨nm,hdt,_,_⟩:=lapT_hd (T0:=T0) (k:=k) (i:=j) hls (by lia)
      by_cases hc : tt + (j : Int) / 20 ≤ 20
      · replace hS:=hS (by simpa using hc)
        clear hH
        have hfe : (0 + ((j + 1 : Nat) : Int) - 1).fdiv 20 = (j : Int) / 20:=by
          rw [Int.fdiv_eq_ediv_of_nonneg _ (by lia)]
          congr 1;lia
        refine hG ?_;clear hG
        repeat' ((fail_if_success (with_reducible show wpAny _ _ (setItem (Value.ref _) (Value.str _ _) (Value.ref _)) _ _ _));first|(with_reducible exact no_implicit_lambda% (absurd hfm (by assumption)))|(k_unfold;(try dsimp only))|((with_reducible show wpAny _ _ (call _ _) _ _ _);first|(k_here;(with_reducible show wpAny _ _ (call (Value.type "str") _) _ _ _);k_dflt (refine' no_implicit_lambda% (str_digit (‹Int.fdiv _ _ = ((_ : Nat) : Int)›) ?h1 ?_);(case h1=>lia));intro qt' qk')|(k_here;(with_reducible show wpAny _ _ (call (Value.ref 941) _) _ _ _);k_dflt (refine' no_implicit_lambda% (use_ronV (fun _ _ h=>ref_of (‹hdT _ = some _›) h) ((‹∀ u,Sat _ 941 430 [Value.str _ u,_] _ (RO _ _)›) _) ?hs ?B ?F ?X ?N ?T ?kk ?dd ?uu ?_);tb_rel;(case hs=>lcg_sub));intro qb9' qtl' qh' qtk' qF' qN' qhV' qhO';(try simp only [List.cons_append,List.nil_append,List.append_assoc] at qN');(try k_sweep)))|(k_here;(with_reducible show wpAny _ _ (binaryOp Operator.Add (Value.str _ _) (Value.str _ _)) _ _ _);k_dflt (refine' no_implicit_lambda% (add_L ?hx ?hy ?hs ?_);(case hx=>with_reducible first | exact lit1 | exact lit2 | exact lit3 | assumption | exact rfl);(case hy=>with_reducible first | exact lit1 | exact lit2 | exact lit3 | assumption | exact rfl);(case hs=>((try simp only [List.length_append,List.length_cons,List.length_nil,List.length_replicate]);lia)));intro qt' qk')|walk1|(refine StD.nx (by with_reducible assumption) _ ?_)|(refine StD.rt (by with_reducible assumption) _ _ ?_)|(refine Ups.up (by with_reducible assumption) _ _ ?_;(try dsimp only))|(k_end;wrow_close)|dsimp only|(leave1;try dsimp only))
        rename Fr _ _ _ _=>F9
        rename News _ _ _ _=>N9
        rename NodeIn (rest ++ _) _ _=>n9
        rename AllOff _ _=>oo
        rename List (Addr × Obj)=>tl9
        replace N9:=News.part N9
        have oD:=Off.app ho' (fun q hq=>oo.mem (dk,o') (by k_mem) q hq)
        have oF : Off (rest ++ _) I:=Off.app (fun q hq=>off' q (.tail _ hq)) (fun q hq=>oo.mem (I,oI) (by k_mem) q hq)
        refine kda_set (knd:=PySem.strKind PR w) F9 N9 (UpdF.tail (fun e=>off' _ (.head _) e.symm) (UpdF.head oD)) hd' (strKind_is _ _ _ _) (by rw [sizeLine_eq];lia) ?_
        intro h9 o9 F8 N8 hd9
        have hv9:=vs_of hd9
        have hl9:=sl_of hd9
        clear F9 N9 hd' hv hfm oo
        have hsn:=pgL_snoc (q:=q + 1) (by lia) ex
        have hp0 : pgL (q + 1) (j + 1) ls = (([123] ++ [68,48 + (q + 1)]) ++ [125]):=by
          simp [pgL,show j + 1 - 20 * (q + 1) = 0 by lia]
        rw [hp0] at hsn
        repeat' (first|(k_unfold;(try dsimp only))|((with_reducible show wpAny _ _ (subscriptTail _ _ _ _) _ _ _);first|(k_here;(with_reducible show wpAny _ _ (subscriptTail _ _ (Value.str _ _) (Value.int _ _)) _ _ _);k_dflt (refine' no_implicit_lambda% (item_at ?hl ?ha ?_);(case hl | ha=>assumption)))|(k_here;(with_reducible show wpAny _ _ (subscriptTail _ _ (Value.ref _) (Value.int _ _)) _ _ _);k_dflt (refine' no_implicit_lambda% (item_mem ?N ?hm ?h0 ?h1 (‹nthV _ _ = some _›) ?_);(case N=>k_asm);(case hm=>k_mem);(case h0=>lia);(case h1=>lia)))|(k_here;(with_reducible show wpAny _ _ (subscriptTail _ _ (Value.ref _) (Value.str _ _)) _ _ _);k_dflt (refine' no_implicit_lambda% (item_d ?N ?hp ?hd ?hv ?_ ?hs);(case N=>k_asm);(case hp=>k_mem);(case hd=>assumption);(case hv=>assumption);(case hs=>with_unfolding_all rfl))))|(k_here;(with_reducible show wpAny _ _ (call _ [Value.ref _,Value.type "int"]) _ _ _);k_dflt (refine' no_implicit_lambda% (isi_int (‹hdT _ = some _›) (‹NodeIn _ _ (Value.ref _)›) ?hs ?F ?X ?N ?_);(case F=>k_asm);(case X=>k_asm);(case N=>k_asm);(case hs=>lcg_sub));intro qtk')|(k_here;(with_reducible show wpAny _ _ (binaryOp Operator.Add (Value.str _ _) (Value.str _ _)) _ _ _);k_dflt (refine' no_implicit_lambda% (add_L ?hx ?hy ?hs ?_);(case hx=>with_reducible first | exact lit1 | exact lit2 | exact lit3 | assumption | exact rfl);(case hy=>with_reducible first | exact lit1 | exact lit2 | exact lit3 | assumption | exact rfl);(case hs=>((try simp only [List.length_append,List.length_cons,List.length_nil,List.length_replicate]);lia)));intro qt' qk')|walk1|(refine StD.nx (by with_reducible assumption) _ ?_)|(refine StD.rt (by with_reducible assumption) _ _ ?_)|(refine Ups.up (by with_reducible assumption) _ _ ?_;(try dsimp only))|(k_end;wrow_close)|dsimp only|(leave1;try dsimp only))
        rename Fr _ _ _ _=>F7
        rename News _ _ _ _=>N7
        have hend : ∀ {h' tk' u' m'} {y1 y2 y3 : Option Value},Fr h₀ L h' m' → News h₀ L h' ((I,oI) :: (dk,o9) :: (rest ++ tl9)) → m' = LM (lawM3 dk td pg tt lo v1 v2 v3 (lawM LD sl way (14 + (a : Int)) (1 + (m : Int)) (k : Int) tr t1 t2 t3 t4)) (.str (tL ([123] ++ [68,48 + (q + 1)] ++ [125] ++ [sgnL x])) u') y1 y2 y3 →
            ∀ {Q1 : Flow → Shared → Prop},TurnEnd h₀ L I oI (LapJ w (lawM3 dk td pg tt lo v1 v2 v3 (lawM LD sl way (14 + (a : Int)) (1 + (m : Int)) (k : Int) tr t1 t2 t3 t4)) td dk LD T0 k D ys ls (j + 1 + 1)) ⟨h₁,gs,dr,tk₁,os⟩ Q1 .next ⟨h',gs,dr,tk',os⟩:=by
          intro h' tk' u' m' y1 y2 y3 F' N' e Q1
          exact ⟨h',tk',m',_,rfl,F',N',Off.cons (off' (dk,o') (.head _) : dk ≠ I) oF,q + 1,_,o9,_,_,u',y1,y2,y3,rfl,by rw [e,hsn],hd9,hv9,by lia,by lia,by lia,by lia,fun _=>by lia,(show 20 * (q + 1) = j + 1 by lia) ▸ n9,List.mem_append_left _ hLD',hD'.mono fun q hq=>List.mem_append_left _ hq,oD⟩
        exact hend F7 N7 (lm_of rfl rfl rfl rfl fun y a b c d=>by simp only [LM,if_neg a,if_neg b,if_neg c,if_neg d])
      · replace hH:=hH (by simpa using hc)
        clear hS
        have hfe : (0 + ((j + 1 : Nat) : Int) - 1).fdiv 20 = (j : Int) / 20:=by
          rw [Int.fdiv_eq_ediv_of_nonneg _ (by lia)]
          congr 1;lia
        refine hG ?_;clear hG
        repeat' ((fail_if_success (with_reducible show wpAny _ _ (setItem (Value.ref _) (Value.str _ _) (Value.int _ _)) _ _ _));first|(with_reducible exact no_implicit_lambda% (absurd hfm (by assumption)))|(k_unfold;(try dsimp only))|((with_reducible show wpAny _ _ (call _ _) _ _ _);first|(k_here;(with_reducible show wpAny _ _ (call (Value.ref 941) _) _ _ _);k_dflt (refine' no_implicit_lambda% (use_satT0 ((‹∀ u,SatT _ 941 430 [Value.str _ u,_] _ _›) _) ?hs ?B ?F ?X ?N ?T ?kk ?dd ?uu ?_);tb_rel;(case hs=>lcg_sub));intro qr9' qh' qtk' qF' qN' qhV';(refine no_implicit_lambda% (gen fun qG qhG=>?_));k_dflt (obtain ⟨qt9',qe9'⟩:=qhV');subst qe9';(refine no_implicit_lambda% (qhG ?_));(clear qhG);(try k_sweep))|(k_here;(with_reducible show wpAny _ _ (call (Value.type "str") _) _ _ _);k_dflt (refine' no_implicit_lambda% (str_digit (‹Int.fdiv _ _ = ((_ : Nat) : Int)›) ?h1 ?_);(case h1=>lia));intro qt' qk'))|(k_here;(with_reducible show wpAny _ _ (binaryOp Operator.Add (Value.str _ _) (Value.str _ _)) _ _ _);k_dflt (refine' no_implicit_lambda% (add_L ?hx ?hy ?hs ?_);(case hx=>with_reducible first | exact lit1 | exact lit2 | exact lit3 | assumption | exact rfl);(case hy=>with_reducible first | exact lit1 | exact lit2 | exact lit3 | assumption | exact rfl);(case hs=>((try simp only [List.length_append,List.length_cons,List.length_nil,List.length_replicate]);lia)));intro qt' qk')|walk1|(refine StD.nx (by with_reducible assumption) _ ?_)|(refine StD.rt (by with_reducible assumption) _ _ ?_)|(refine Ups.up (by with_reducible assumption) _ _ ?_;(try dsimp only))|(k_end;wrow_close)|dsimp only|(leave1;try dsimp only))
        rename Fr _ _ _ _=>F9
        rename News _ _ _ _=>N9
        replace N9:=News.part N9
        refine kda_set (knd:=PySem.strKind PR w) F9 N9 (UpdF.tail (fun e=>off' _ (.head _) e.symm) (UpdF.head ho')) hd' (strKind_is _ _ _ _) (by rw [sizeLine_eq];lia) ?_
        intro h9 o9 F8 N8 hd9
        have hv9:=vs_of hd9
        clear F9 N9 hd' hv hfm
        repeat' (first|(k_unfold;(try dsimp only))|(k_here;(with_reducible show wpAny _ _ (subscriptTail _ _ (Value.ref _) (Value.str _ _)) _ _ _);k_dflt (refine' no_implicit_lambda% (item_d ?N ?hp ?hd ?hv ?_ ?hs);(case N=>k_asm);(case hp=>k_mem);(case hd=>assumption);(case hv=>assumption);(case hs=>with_unfolding_all rfl)))|walk1|(refine StD.nx (by with_reducible assumption) _ ?_)|(refine StD.rt (by with_reducible assumption) _ _ ?_)|(refine Ups.up (by with_reducible assumption) _ _ ?_;(try dsimp only))|(k_end;wrow_close)|dsimp only|(leave1;try dsimp only))
        all_goals (refine turn_ret ?_;refine StD.rt (by with_reducible assumption) _ _ ?_;exact hQ _ _ _ _ (by assumption) (by assumption))
    · have hf : 0 < (0 + (i : Int)) → (0 + (i : Int)).fmod 20 ≠ 0:=by
        intro h
        rw [Int.fmod_eq_emod_of_nonneg _ (by lia)]
        lia
      have hsn:=pgL_snoc hqi ex
      have hpl : (pgL q i ls).length ≤ 100:=by
        show (_ :: _ :: _ :: _ :: _ : List Nat).length ≤ 100
        simp only [List.length_cons,List.length_map,List.length_take,List.length_drop];lia
      generalize pgL q i ls = PG at F₁ hsn hpl
      have hend : ∀ {h' tk' u' m'} {y' : Option Value},Fr h₀ L h' m' → News h₀ L h' ((I,oI) :: (dk,o') :: rest) → m' = LM (lawM3 dk td pg tt lo v1 v2 v3 (lawM LD sl way (14 + (a : Int)) (1 + (m : Int)) (k : Int) tr t1 t2 t3 t4)) (.str (tL (PG ++ [sgnL x])) u') y' c2 c3 →
          ∀ {Q1 : Flow → Shared → Prop},TurnEnd h₀ L I oI (LapJ w (lawM3 dk td pg tt lo v1 v2 v3 (lawM LD sl way (14 + (a : Int)) (1 + (m : Int)) (k : Int) tr t1 t2 t3 t4)) td dk LD T0 k D ys ls (i + 1)) ⟨h₁,gs,dr,tk₁,os⟩ Q1 .next ⟨h',gs,dr,tk',os⟩:=by
        intro h' tk' u' m' y' F' N' e Q1
        exact ⟨h',tk',m',_,rfl,F',N',off',q,v,o',kvs,rest,u',y',c2,c3,rfl,by rw [e,hsn],hd',hv,hkl,hq,by lia,by lia,by lia,hn,hLD',hD',ho'⟩
      by_cases i0 : i = 0
      · clear hf
        refine hG ?_;clear hG
        repeat' (first|(k_unfold;(try dsimp only))|((with_reducible show wpAny _ _ (subscriptTail _ _ _ _) _ _ _);first|(k_here;(with_reducible show wpAny _ _ (subscriptTail _ _ (Value.str _ _) (Value.int _ _)) _ _ _);k_dflt (refine' no_implicit_lambda% (item_at ?hl ?ha ?_);(case hl | ha=>assumption)))|(k_here;(with_reducible show wpAny _ _ (subscriptTail _ _ (Value.ref _) (Value.int _ _)) _ _ _);k_dflt (refine' no_implicit_lambda% (item_mem ?N ?hm ?h0 ?h1 (‹nthV _ _ = some _›) ?_);(case N=>k_asm);(case hm=>k_mem);(case h0=>lia);(case h1=>lia))))|(k_here;(with_reducible show wpAny _ _ (binaryOp Operator.Add (Value.str _ _) (Value.str _ _)) _ _ _);k_dflt (refine' no_implicit_lambda% (add_L ?hx ?hy ?hs ?_);(case hx=>with_reducible first | exact lit1 | exact lit2 | exact lit3 | assumption | exact rfl);(case hy=>with_reducible first | exact lit1 | exact lit2 | exact lit3 | assumption | exact rfl);(case hs=>((try simp only [List.length_append,List.length_cons,List.length_nil,List.length_replicate]);lia)));intro qt' qk')|walk1|(refine StD.nx (by with_reducible assumption) _ ?_)|(refine StD.rt (by with_reducible assumption) _ _ ?_)|(refine Ups.up (by with_reducible assumption) _ _ ?_;(try dsimp only))|(k_end;wrow_close)|dsimp only|(leave1;try dsimp only))
        rename Fr _ _ _ _=>F9
        rename News _ _ _ _=>N9
        exact hend F9 N9 (lm_of rfl rfl rfl rfl fun y a b c d=>by simp only [LM,if_neg a,if_neg b,if_neg c,if_neg d])
      · replace hf:=hf (by lia)
        refine hG ?_;clear hG
        repeat' (first|(k_unfold;(try dsimp only))|((with_reducible show wpAny _ _ (subscriptTail _ _ _ _) _ _ _);first|(k_here;(with_reducible show wpAny _ _ (subscriptTail _ _ (Value.str _ _) (Value.int _ _)) _ _ _);k_dflt (refine' no_implicit_lambda% (item_at ?hl ?ha ?_);(case hl | ha=>assumption)))|(k_here;(with_reducible show wpAny _ _ (subscriptTail _ _ (Value.ref _) (Value.int _ _)) _ _ _);k_dflt (refine' no_implicit_lambda% (item_mem ?N ?hm ?h0 ?h1 (‹nthV _ _ = some _›) ?_);(case N=>k_asm);(case hm=>k_mem);(case h0=>lia);(case h1=>lia))))|(k_here;(with_reducible show wpAny _ _ (binaryOp Operator.Add (Value.str _ _) (Value.str _ _)) _ _ _);k_dflt (refine' no_implicit_lambda% (add_L ?hx ?hy ?hs ?_);(case hx=>with_reducible first | exact lit1 | exact lit2 | exact lit3 | assumption | exact rfl);(case hy=>with_reducible first | exact lit1 | exact lit2 | exact lit3 | assumption | exact rfl);(case hs=>((try simp only [List.length_append,List.length_cons,List.length_nil,List.length_replicate]);lia)));intro qt' qk')|(k_here;(with_reducible show wpAny _ _ (compareOp CmpOp.Eq (Value.int _ _) (Value.int _ _)) _ _ _);refine no_implicit_lambda% (eq_int_f (by lia) ?_))|walk1|(refine StD.nx (by with_reducible assumption) _ ?_)|(refine StD.rt (by with_reducible assumption) _ _ ?_)|(refine Ups.up (by with_reducible assumption) _ _ ?_;(try dsimp only))|(k_end;wrow_close)|dsimp only|(leave1;try dsimp only))
        rename Fr _ _ _ _=>F9
        rename News _ _ _ _=>N9
        exact hend F9 N9 (lm_of rfl rfl rfl rfl fun y a b c d=>by simp only [LM,if_neg a,if_neg b,if_neg c,if_neg d])
set_option maxHeartbeats 2000000
theorem mulI {prog : Program} {w : World} {A : Around} {E : Value → Shared → Prop} {s : Shared} {h₀ : Heap} {L : Addr} {m : Str → Option Value} {news : Led} {l : Addr} {t : Tok} {e0 : Nat} {x : Int} {u : Tok} {k : Nat} {Q : Value → Shared → Prop}
    (Fm : Fr h₀ L s.heap m) (N : News h₀ L s.heap news) (hm : (l,W.listOf #[.int 3 t] e0) ∈ news) (e : x = ((k : Nat) : Int)) (hk : k ≤ 1000)
    (h : ∀ D zs h',Fr h₀ L h' m → News h₀ L h' ((D,W.listOf (List.toArray zs) 0) :: news) → (∀ p ∈ news,p.1 < D) → IntsAre zs (List.replicate k 3) → Q (.ref D) { s with heap:=h' }) : wpAny (model prog w) A (binaryOp .Mult (.ref l) (.int x u)) Q E s:=by
  subst e
  refine KM.mul (vs:=[.int 3 t]) (ns:=[3]) Fm N ⟨_,(N _ hm).1,rfl,e0,rfl⟩ (.cons 3 t .nil) (by lia) (by lia) ?_ fun D h' F' N' l1 i1 _ _ _ _ _=>h D _ h' F' N' l1 ?_
  · simp;lia
  · have : (List.replicate ((k : Int)).toNat [(3 : Int)]).flatten = List.replicate k 3:=by
      rw [Int.toNat_natCast]
      clear h hm N Fm i1 N' hk
      induction k with
      | zero=>rfl
      | succ k ih=>simp [List.replicate_succ,ih]
    rwa [this] at i1
theorem addI {prog : Program} {w : World} {A : Around} {E : Value → Shared → Prop} {s : Shared} {h₀ : Heap} {L a b : Addr} {m : Str → Option Value} {news : Led} {vs ws : List Value} {ns ms : List Int} {e1 e2 : Nat} {Q : Value → Shared → Prop}
    (F : Fr h₀ L s.heap m) (N : News h₀ L s.heap news) (ha : (a,W.listOf vs.toArray e1) ∈ news) (hb : (b,W.listOf ws.toArray e2) ∈ news) (hi : IntsAre vs ns) (hj : IntsAre ws ms) (hz : ns.length + ms.length ≤ 1000)
    (h : ∀ D us h',Fr h₀ L h' m → News h₀ L h' ((D,W.listOf (List.toArray us) 0) :: news) → (∀ p ∈ news,p.1 < D) → IntsAre us (ns ++ ms) → Q (.ref D) { s with heap:=h' }) : wpAny (model prog w) A (binaryOp .Add (.ref a) (.ref b)) Q E s :=
  kmk_add_ints F N ⟨_,(N _ ha).1,rfl,e1,rfl⟩ ⟨_,(N _ hb).1,rfl,e2,rfl⟩ hi hj h (by rw [sizeLine_eq];lia)
theorem about_sat' (w : World) {l : List Nat} {x : Int} {k : Nat} {u u2 : Tok} (e : x = ((k : Nat) : Int)) (hl : l.length ≤ 300) (hk : k ≤ 20) :
    Sat w 934 3 [.str (tL l) u,.int x u2] [] (fun r own'=>(∃ t,r = .str (tL (aboutL k l)) t) ∧ own' = []):=e ▸ about_sat w hl hk
theorem layT {T0 : Tr} {k j m : Nat} {ls : List Int} (hl : ls.length = m + 1) : aboutT j (lapT T0 k (m + 1) ls) = treeR T0 ((List.replicate k 3 ++ ls) ++ List.replicate j 3).reverse:=by
  rw [List.reverse_append,List.reverse_append,List.reverse_replicate,List.reverse_replicate]
  show treeR (treeR T0 ((ls.take (m + 1)).reverse ++ List.replicate k 3)) (List.replicate j 3) = _
  rw [← treeR_app,List.take_of_length_le (by lia)]
theorem hd_lay {T : Tr} {l : List Int} {j : Nat} (hl : l ≠ []) : ∃ y,hdT (aboutT j (treeR T l)) = some y:=by
  rw [show aboutT j (treeR T l) = treeR T (List.replicate j 3 ++ l) from (treeR_app _ _ _).symm]
  cases e : List.replicate j (3 : Int) ++ l with
  | nil=>exact absurd (List.append_eq_nil_iff.mp e).2 hl
  | cons x r=>exact hd_wrap x _
theorem about_head (j : Nat) {c : Nat} {pg : List Nat} (hc : c = 123) : ∃ c' mid',aboutL j (c :: pg) = c' :: mid' ∧ (Str.mk #[c'] == Str.ofString "^") = false:=by
  subst hc
  cases j with
  | zero=>exact ⟨123,pg,aboutL_zero _,by decide +kernel⟩
  | succ j=>exact ⟨40,_,by simp [aboutL,repN];rfl,by decide +kernel⟩
theorem so_of (w : World) {h₀ h : Heap} {L : Addr} {led led1 : Led} {a ly td : Addr} {e : Nat} {vs : List Value} {ns : List Int} {T0 : Tr} {D : Dat} (_N : News h₀ L h led) (hB : BaseT T0 D) (hn : NodeIn led1 (treeR T0 ns.reverse) (.ref a)) (hs : ∀ q ∈ led1,q ∈ led) (hly : (ly,W.listOf vs.toArray e) ∈ led) (hi : IntsAre vs ns) (hr : ∀ k ∈ ns,0 ≤ k ∧ k ≤ 3) (hz : ns.length ≤ 200) (hD : DatIn led1 (.ref td) D) :
    Sat w 955 30 [.ref a,.ref ly,.ref td] led (RO led (fun tl r=>r = .bool true)):=is_so w led hB (hn.up hs) hly hi hr hz (hD.mono hs)
theorem ip_at {w : World} {h₀ h : Heap} {L : Addr} {led led1 : Led} {dk : Addr} {o : Obj} {c : Nat} {mid : List Nat} {T : Tr} {f : Int → Int} {u : Tok} {yh : String × Bool} {du ly td : Addr} {e1 e : Nat} {vs : List Value} {ns : List Int} {T0 : Tr} {D : Dat} (_N : News h₀ L h led)
    (hR : ∀ rest' : Led,RdAll w ((dk,o) :: rest') (.ref dk) (c :: mid) T) (hT : ∀ tl r,NodeIn tl T r → NodeIn (led1 ++ tl) (treeR T0 ns.reverse) r) (hs : ∀ q ∈ led1,q ∈ led) (hL : LvW w (treeR T0 ns.reverse) f 400) (hl : (c :: mid).length ≤ 900) (hyh : hdT T = some yh) (hc : (Str.mk #[c] == Str.ofString "^") = false) (hf : f 0 ≤ 20)
    (hB : BaseT T0 D) (hdu : (du,W.listOf #[.ref ly,.ref td] e1) ∈ led) (hly : (ly,W.listOf vs.toArray e) ∈ led) (hi : IntsAre vs ns) (hr : ∀ k ∈ ns,0 ≤ k ∧ k ≤ 3) (hz : ns.length ≤ 200) (hD : DatIn led1 (.ref td) D) (b : Bool) :
    Sat w 962 440 [.str (tL (c :: mid)) u,.ref dk,.bool b,.ref du] ((dk,o) :: led) (RO ((dk,o) :: led) (fun tl r=>r = .bool true)) :=
  ip_lo (hR led) (fun tl r h=>(hT tl r h).up (fun q hq=>by
    rcases List.mem_append.mp hq with hq | hq
    · exact List.mem_append_left _ (.tail _ (hs q hq))
    · exact List.mem_append_right _ hq)) hL hl rfl hyh hc hf hB (.tail _ hdu) (.tail _ hly) hi hr hz (hD.mono fun q hq=>.tail _ (hs q hq)) b
theorem so_sub {h₀ h : Heap} {L : Addr} {led a : Led} (_N : News h₀ L h led) (hs : ∀ q ∈ a,q ∈ led) : ∀ q ∈ a,q ∈ led:=hs
theorem law_r4 (w : World) {p : Program} {loose : List Str} {mean : ExcName → Option Value} {mg mb : Str → Option Value} {h₀ : Heap} {L fa : Addr} {cd : Value} {sl : Addr} {gs : Array GenState} {dr : Drawn} {os : OsState} {Q : Flow → Shared → Prop}
    (K0 : Below callerA h₀ [] h₀) (X : (KF w.params).In h₀) (T : Top p loose mean mg mb h₀)
    {way : Int} {a k m : Nat} {tr : Bool} {t1 t2 t3 t4 : Tok} {pg : List Nat} {T0 : Tr} {D : Dat} {lo ti tt : Int} {LD : Addr} {ys : List Value} {ls : List Int} (ha : a < 6) (hk : k ≤ 14 + a) (hm : m < 61) (hB : BaseR way pg T0 D lo ti) (hI : IntsAre ys ls) (hln : ls.length = m + 1) (hls : ∀ k ∈ ls,k = 0 ∨ k = 1 ∨ k = 2)
    (htt : tt = if 0 < k then lo + k + 1 else ti)
    (hQ : ∀ (h : Heap) (tk : Nat) (m' : Str → Option Value) (news : Led),Fr h₀ L h m' → News h₀ L h news → Q (.ret (.bool true)) ⟨h,gs,dr,tk,os⟩) :
    LawR4 w h₀ L fa cd gs dr os Q (lawM LD sl way (14 + (a : Int)) (1 + (m : Int)) (k : Int) tr t1 t2 t3 t4) pg T0 k m D lo tt LD ys ls:=by
  intro td dk v1 v2 v3 news mm h tk F N J hsys
  refine Tip.of ?_
  obtain ⟨q,v,o,kvs,rest,u,c1,c2,c3,rfl,rfl,hd,hv,hkl,hq,hqi,hiq,hqi',hn,hLD,hD,ho⟩:=J
  obtain ⟨j,hj⟩ : ∃ j : Nat,14 + (a : Int) - (k : Int) = ((j : Nat) : Int):=⟨14 + a - k,by lia⟩
  have hfe : (1 + (m : Int) - 1).fdiv 20 = (m : Int) / 20:=by
    rw [Int.fdiv_eq_ediv_of_nonneg _ (by lia)]
    congr 1;lia
  have hpl : (pgL q (m + 1) ls).length ≤ 100:=by
    show (_ :: _ :: _ :: _ :: _ : List Nat).length ≤ 100
    simp only [List.length_cons,List.length_map,List.length_take,List.length_drop];lia
  rw [show List.drop 10 (dB pgm 61 1000) = _ by conv=>lhs;whnf,show dS pgm 61 1000 = _ by conv=>lhs;whnf]
  repeat' ((fail_if_success (with_reducible show wpAny _ _ (call (Value.ref 941) _) _ _ _));first|(k_unfold;(try dsimp only))|(k_here;(with_reducible show wpAny _ _ (call (Value.ref 934) _) _ _ _);k_dflt (refine' no_implicit_lambda% (use_str (about_sat' _ (‹_ = ((_ : Nat) : Int)›) ?hl ?hk) trivial rfl ?B ?F ?X ?N ?T ?kk ?dd ?uu ?_);tb_rel;(case hl=>lia);(case hk=>lia));intro qt' qh' qtk' qF' qN';(try k_sweep))|((with_reducible show wpAny _ _ (binaryOp _ _ _) _ _ _);first|(k_here;(with_reducible show wpAny _ _ (binaryOp Operator.Add (Value.ref _) (Value.ref _)) _ _ _);k_dflt (refine' no_implicit_lambda% (addI ?F ?N ?ha ?hb ?hi ?hj ?hz ?_);(case F=>k_asm);(case N=>k_asm);(case ha=>k_mem);(case hb=>k_mem);(case hi=>assumption);(case hj=>assumption);(case hz=>(simp only [List.length_append,List.length_replicate];lia)));intro qD' qus' qh' qF' qN' ql1 qi1;(try k_lt ql1);(try k_sweep))|(k_here;(with_reducible show wpAny _ _ (binaryOp Operator.Mult (Value.ref _) (Value.int _ _)) _ _ _);k_dflt (refine' no_implicit_lambda% (mulI ?F ?N ?hm ?e ?hk ?_);(case F=>k_asm);(case N=>k_asm);(case hm=>k_mem);(case e=>first | assumption | exact rfl);(case hk=>lia));intro qD' qzs' qh' qF' qN' ql1 qi1;(try k_lt ql1);(try k_sweep)))|walk1|(refine StD.nx (by with_reducible assumption) _ ?_)|(refine StD.rt (by with_reducible assumption) _ _ ?_)|(refine Ups.up (by with_reducible assumption) _ _ ?_;(try dsimp only))|(k_end;wrow_close)|dsimp only|(leave1;try dsimp only))
  rename IntsAre _ ((_ ++ _) ++ _)=>hI9
  rename Fr _ _ _ _=>F9
  rename News _ _ _ _=>N9
  refine gen fun G hG=>?_
  have hS:=lap_lo w (i:=m) (j:=j) hB (by lia) (by lia) hd hsys hv hq hls hn (by lia) (by lia) (by lia)
  have hH:=lap_hi w (i:=m) (j:=j) hB (by lia) (by lia) hd hsys hv hq hls hn (by lia) (by lia) (by lia)
  obtain ⟨g,hg,e0,e2⟩:=lapT_lvj w hB (k:=k) (j:=j) (by lia) hls (i:=m) (by lia) (by lia)
  rw [layT hln] at hS hg
  rw [← htt] at hS hH e0 e2
  have hlen:=lap_len w hB (j:=j) (by lia) (by lia) hd hsys hv hq hls hn (i:=m) (by lia) (by lia) (by lia)
  obtain ⟨c,mid,ec,hc0⟩:=about_head j (c:=123) (pg:=68 :: (48 + q) :: 125 :: ((ls.drop (20 * q)).take (m + 1 - 20 * q)).map sgnL) rfl
  rw [show aboutL j (pgL q (m + 1) ls) = c :: mid from ec] at hS hH hlen F9 hG
  have hRd:=fun rest'=>lap_rd w (rest:=rest') (i:=m + 1) hd hsys hv hq hls (by lia) (j:=j) (by lia)
  rw [show aboutL j (pgL q (m + 1) ls) = c :: mid from ec] at hRd
  have hfd : (m : Int) / 20 = ((m / 20 : Nat) : Int):=by lia
  have hr3 : ∀ x ∈ (List.replicate k 3 ++ ls) ++ List.replicate j 3,(0 : Int) ≤ x ∧ x ≤ 3:=by
    intro x hx
    rcases List.mem_append.mp hx with hx | hx
    · rcases List.mem_append.mp hx with hx | hx
      · rw [List.eq_of_mem_replicate hx];decide
      · rcases hls x hx with rfl | rfl | rfl <;> decide
    · rw [List.eq_of_mem_replicate hx];decide
  have hz3 : ((List.replicate k (3 : Int) ++ ls) ++ List.replicate j 3).length ≤ 200:=by
    simp only [List.length_append,List.length_replicate];lia
  obtain ⟨yT,hyT⟩:=hd_lay (T:=.hole v) (l:=((ls.drop (20 * q)).take (m + 1 - 20 * q)).reverse) (j:=j) (fun e=>by
    have:=congrArg List.length e
    simp only [List.length_reverse,List.length_take,List.length_drop,List.length_nil] at this
    lia)
  have hPl:=fun tl r hr=>layT hln ▸ lap_plug (dk:=dk) (o:=o) hn (i:=m + 1) hqi j tl r hr
  by_cases hc : tt + (m : Int) / 20 + j ≤ 20
  · replace hS:=hS hc
    clear hH
    obtain ⟨yh,hyh⟩:=hd_treeR (base_t hB).1.hd ((List.replicate k 3 ++ ls) ++ List.replicate j 3).reverse
    refine hG ?_;clear hG
    k_dflt (refine' use_ron (hS _) ?hs ?B ?F ?X ?N ?T ?kk ?dd ?uu ?_;tb_rel;(case hs=>lcg_sub))
    intro r9 tl9 h9 tk9 F8 N8 hV9 hO9
    refine gen fun G hG=>?_
    obtain ⟨b9,rfl⟩:=ref_of hyh hV9
    refine hG ?_;clear hG
    (try simp only [List.cons_append,List.nil_append,List.append_assoc] at N8)
    clear F9 N9
    repeat' ((fail_if_success (with_reducible show wpAny _ _ (call (Value.ref 955) _) _ _ _));first|(k_unfold;(try dsimp only))|(k_here;(with_reducible show wpAny _ _ (call _ [Value.ref _,Value.type "int"]) _ _ _);k_dflt (refine' no_implicit_lambda% (isi_int (‹hdT _ = some _›) (‹NodeIn _ _ (Value.ref _)›) ?hs ?F ?X ?N ?_);(case F=>k_asm);(case X=>k_asm);(case N=>k_asm);(case hs=>lcg_sub));intro qtk')|walk1|(refine StD.nx (by with_reducible assumption) _ ?_)|(refine StD.rt (by with_reducible assumption) _ _ ?_)|(refine Ups.up (by with_reducible assumption) _ _ ?_;(try dsimp only))|(k_end;wrow_close)|dsimp only|(leave1;try dsimp only))
    rename News _ _ _ _=>N7
    have hs7 : ∀ q ∈ rest ++ tl9,q ∈ _:=so_sub N7 (by lcg_sub)
    k_dflt (refine' use_ron (so_of w N7 (base_t hB).1 hV9 hs7 ?m1 hI9 hr3 hz3 (hD.mono fun q hq=>List.mem_append_left _ hq)) ?hs ?B ?F ?X ?N ?T ?kk ?dd ?uu ?_;(case m1=>k_mem);tb_rel;(case hs=>exact fun q hq=>hq))
    intro r6 tl6 h6 tk6 F6 N6 hV6 _
    subst hV6
    have hlev:=hg _ _ hV9
    have hg0 : g 0 = tt + (1 + (m : Int) - 1).fdiv 20 + (14 + (a : Int)) - (k : Int):=by rw [e0,hfe];lia
    have hg2 : g 2 = tt + (1 + (m : Int) - 1).fdiv 20 + (14 + (a : Int)) - (k : Int) + if decide (0 < 14 + (a : Int) - (k : Int)) = true then 1 else 0:=by
      rw [e2,hfe,hj]
      by_cases h0 : 0 < j
      · rw [if_pos h0,if_pos (by simpa using h0)];lia
      · rw [if_neg h0,if_neg (by simpa using h0)];lia
    clear hs7 N7
    repeat' ((fail_if_success (with_reducible show wpAny _ _ (call (Value.ref 962) _) _ _ _));first|(with_reducible exact no_implicit_lambda% (absurd hg0 (by assumption)))|(with_reducible exact no_implicit_lambda% (absurd hg2 (by assumption)))|(k_unfold;(try dsimp only))|((with_reducible show wpAny _ _ (call _ _) _ _ _);first|(k_here;(with_reducible show wpAny _ _ (call (Value.ref 682) [_]) _ _ _);k_dflt (refine' no_implicit_lambda% (use_rocI (LevC.use0 ?S) ?hs ?B ?F ?X ?N ?T ?kk ?dd ?uu ?_);(case S=>assumption);tb_rel;(case hs=>lcg_sub));intro qt9' qh' qtk' qF' qN';(try k_sweep))|(k_here;(with_reducible show wpAny _ _ (call (Value.ref 682) [_,Value.int _ _]) _ _ _);k_dflt (refine' no_implicit_lambda% (use_rocI (LevC.use ?S ?h0 ?h1) ?hs ?B ?F ?X ?N ?T ?kk ?dd ?uu ?_);(case S=>assumption);tb_rel;(case hs=>lcg_sub);(case h0=>lia);(case h1=>lia));intro qt9' qh' qtk' qF' qN';(try k_sweep)))|walk1|(refine StD.nx (by with_reducible assumption) _ ?_)|(refine StD.rt (by with_reducible assumption) _ _ ?_)|(refine Ups.up (by with_reducible assumption) _ _ ?_;(try dsimp only))|(k_end;wrow_close)|dsimp only|(leave1;try dsimp only))
    rename News _ _ _ _=>N5
    have hs5 : ∀ q ∈ ((dk,o) :: rest),q ∈ _:=so_sub N5 (by lcg_sub)
    have hm5:=hs5 _ (.head _)
    k_dflt (refine' use_ron (ip_at N5 hRd hPl hs5 hg hlen hyT hc0 (by rw [e0];exact hc) (base_t hB).1 ?m1 ?m2 hI9 hr3 hz3 (hD.mono fun q hq=>.tail _ hq) tr) ?hs ?B ?F ?X ?N ?T ?kk ?dd ?uu ?_;(case m1 | m2=>k_mem);tb_rel;(case hs=>(intro q hq;rcases List.mem_cons.mp hq with rfl | hq;exact hm5;exact hq)))
    intro r4 tl4 h4 tk4 F4 N4 hV4 _
    subst hV4
    repeat' (first|(k_unfold;(try dsimp only))|walk1|(refine StD.nx (by with_reducible assumption) _ ?_)|(refine StD.rt (by with_reducible assumption) _ _ ?_)|(refine Ups.up (by with_reducible assumption) _ _ ?_;(try dsimp only))|(k_end;wrow_close)|(dsimp only;walk1)|(leave1;try dsimp only))
    all_goals exact hQ _ _ _ _ (by assumption) (by assumption)
  · replace hH:=hH (by lia)
    clear hS
    refine hG ?_;clear hG
    k_dflt (refine' use_satT0 (hH _) ?hs ?B ?F ?X ?N ?T ?kk ?dd ?uu ?_;tb_rel;(case hs=>lcg_sub))
    intro r9 h9 tk9 F8 N8 hV9
    refine gen fun G hG=>?_
    obtain ⟨t9,rfl⟩:=hV9
    refine hG ?_;clear hG
    clear F9 N9
    repeat' ((fail_if_success (with_reducible show wpAny _ _ (call (Value.ref 962) _) _ _ _));first|(k_unfold;(try dsimp only))|walk1|(refine StD.nx (by with_reducible assumption) _ ?_)|(refine StD.rt (by with_reducible assumption) _ _ ?_)|(refine Ups.up (by with_reducible assumption) _ _ ?_;(try dsimp only))|(k_end;wrow_close)|(dsimp only;walk1)|(leave1;try dsimp only))
    k_dflt (refine' use_satT0 (ip_hi (hRd rest) hPl hg hlen rfl hyT hc0 (by rw [e0];lia) tr) ?hs ?B ?F ?X ?N ?T ?kk ?dd ?uu ?_;tb_rel;(case hs=>lcg_sub))
    intro r7 h7 tk7 F7 N7 hV7
    subst hV7
    repeat' (first|(k_unfold;(try dsimp only))|walk1|(refine StD.nx (by with_reducible assumption) _ ?_)|(refine StD.rt (by with_reducible assumption) _ _ ?_)|(refine Ups.up (by with_reducible assumption) _ _ ?_;(try dsimp only))|(k_end;wrow_close)|(dsimp only;walk1)|(leave1;try dsimp only))
    all_goals exact hQ _ _ _ _ (by assumption) (by assumption)
set_option maxHeartbeats 2000000
theorem em_of {f : Str → Option Value} {v : Value} (h : f = fun y=>if y = Str.ofString "script" then some v else none) : f = fun y=>List.lookup y [(Str.ofString "script",v)]:=by
  subst h;funext y
  by_cases e : y = Str.ofString "script"
  · rw [if_pos e];simp [List.lookup,e]
  · rw [if_neg e];simp [List.lookup,beq_eq_false_iff_ne.mpr e]
theorem law_all (w : World) {p : Program} {loose : List Str} {mean : ExcName → Option Value} {mg mb : Str → Option Value} {h₀ : Heap} {L fa : Addr} {cd : Value} {sl : Addr} {vs : List Value} {ns : List Int} {s : Shared} {oc : Obj} {Q : Flow → Shared → Prop} {E : Value → Shared → Prop} {mm : Str → Option Value}
    (K0 : Below callerA h₀ [] h₀) (X : (KF w.params).In h₀) (T : Top p loose mean mg mb h₀) (hl : h₀.IsList sl vs.toArray) (hi : IntsAre vs ns) (hz : ¬ ((63 : Nat) : Int) < (ns.length : Int))
    (F : Fr h₀ L s.heap mm) (em : mm = (fun y=>List.lookup y [(Str.ofString "script",Value.ref sl)])) (N : News h₀ L s.heap [(L + 1,oc)]) (hoc : oc.data = .cell none)
    (hq : ∀ (h : Heap) (tk : Nat) (m' : Str → Option Value) (news : Led),Fr h₀ L h m' → News h₀ L h news → Q (.ret (.bool true)) ⟨h,s.gens,s.drawn,tk,s.os⟩) :
    wpAny (model PR w) (callerA.deeper (lawE L fa cd (dS pgm 61 1000))) (execs (dB pgm 61 1000) (lawE L fa cd (dS pgm 61 1000))) Q E s :=
  wpAny_mono (law_walk w K0 X T hl hi (by lia) (fr_eq em F) N hoc (law_r1 w K0 X T fun way a k m tr t1 t2 t3 t4 pg T0 D lo ti LD ys ls ha hk hm hB hI hln hls =>
    law_r2 w K0 X T (ls:=ls) ha hk hm hB (law_r3 w K0 X T ha hk hm hB hI hln hls rfl hq (law_r4 w K0 X T ha hk hm hB hI hln hls rfl hq)))) (fun _ _ h=>h) fun _ _ h=>h.elim
set_option maxHeartbeats 0
theorem last : PySem.Challenge.rw_sf0023_01.Holds:=by
  w_on;refine holds_law ws fun said=>?_
  refine holds_open (q:=qv) (loose:=looseL) (Xt:=Xt) (XP:=XL qv []) (Yf:=Hook.obs hk) (Ya:=Hook.val hk) (YP:=Hook.says hk) (N:=20000) left (Hook.of hk) (Hook.keeps hk) (fun s e=>xl_of s (Bool.and_eq_true_iff.mp e).1) XL.keeps (by rfl) (by rfl) (by rfl) (fun s e=>recFacts_of (Bool.and_eq_true_iff.mp e).2) (by rfl) (by assumption) (by decide +kernel) ⟨rfl,rfl,rfl,rfl,rfl,by decide +kernel⟩ ?hw ?hc
  case hw=>w_witness2
  case hc =>
    w_strict (k_go0;(all_goals try k_fold);(refine law_all _ (‹Below callerA _ [] _›) (‹(KF _).In _›) (‹Top _ _ _ _ _ _›) (‹Heap.IsList _ _ _›) (‹IntsAre _ _›) (‹¬ _›) (‹Fr _ _ _ _›) ?em (‹News _ _ _ _›) ?hoc ?hq);
                   (case hoc=>first | assumption | exact (‹_ ∧ _›).2 | skip);
                   (case em=>exact em_of rfl);
                   (case hq=>(intro h9 tk9 m9 news9 F9 N9;k_unfold;(try dsimp only);k_steps)))
end
end Mine

theorem PySem.Challenge.cw_sf0023_01_holds : PySem.Challenge.rw_sf0023_01.Holds := by
  exact Mine.last
