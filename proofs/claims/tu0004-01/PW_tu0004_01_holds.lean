import PyProof.Rows.All
import Wide.All
import OpenK.AllK
import Wide.FinOn
import PySem.Challenge.RW_tu0004_01
set_option Elab.async false
set_option linter.all false
set_option genSizeOf false
set_option tactic.hygienic false
set_option hygiene false
set_option genInjectivity false
set_option compiler.extract_closed false
set_option maxRecDepth 100000
set_option maxHeartbeats 16000000
open PySem PySem.W PySem.Calls PyProof.Rows
namespace Mine.H
noncomputable abbrev pw : Program := PySem.Challenge.pw_tu0004_01
noncomputable def bodyE : List Stmt := behindTheImports pw
noncomputable def st (i : Nat) : Stmt := (bodyE[i]?).getD (.Pass default)
noncomputable def stc (i j : Nat) : Stmt := match st i with
 | .ClassDef _ _ _ b _ _ _ _ _ _ _ => (b[j]?).getD (.Pass default)
 | s => s
noncomputable def fA : Stmt -> Arguments
 | .FunctionDef _ a _ _ _ _ _ _ _ _ => a
 | _ => ⟨[], [], none, [], [], none, []⟩
noncomputable def fB : Stmt -> List Stmt
 | .FunctionDef _ _ b _ _ _ _ _ _ _ => b
 | _ => []
noncomputable def fS : Stmt -> Scope
 | .FunctionDef _ _ _ _ _ _ sc _ _ _ => sc
 | _ => default
noncomputable def e (P : Params) (n : Str) (t : Nat) (v : Value) : DictEntry := ⟨PyData.keyHash P n, .str n t, v⟩
noncomputable def dmore : Obj -> List DictEntry -> Nat -> Obj
 | ⟨c, d, .dict es _, s⟩, l, m => ⟨c, d, .dict ⟨es.toList ++ l⟩ m, s⟩
 | o, _, _ => o
noncomputable def smore : Obj -> List Value -> Nat -> Obj
 | ⟨c, d, .seq es _, s⟩, l, m => ⟨c, d, .seq ⟨es.toList ++ l⟩ m, s⟩
 | o, _, _ => o
noncomputable def fmore : Obj -> List Value -> Obj
 | ⟨c, d, .fields es, s⟩, l => ⟨c, d, .fields ⟨es.toList ++ l⟩, s⟩
 | o, _ => o
noncomputable def envE : Env := { scope := pw.main.scope, locals := mainNs, globals := mainNs, cells := [], code := .ref 13, frame := some 14 }
noncomputable def cE : Code := .body bodyE envE
noncomputable def sts (a n : Nat) : List Stmt := (bodyE.drop a).take n
noncomputable def qP : Pos := ⟨0, 0, 0, 0⟩
noncomputable def ann : Option Value := some (.ref 6)
noncomputable def row : String := "special-get-raises"
noncomputable def s0 : Str := ⟨⟨[60, 109, 111, 100, 117, 108, 101, 62]⟩⟩
noncomputable def s1 : Str := ⟨⟨[47, 99, 108, 97, 105, 109, 47, 99, 117, 116, 46, 112, 121]⟩⟩
noncomputable def s2 : Str := ⟨⟨[95, 95, 109, 97, 105, 110, 95, 95]⟩⟩
noncomputable def s3 : Str := ⟨⟨[95, 95, 110, 97, 109, 101, 95, 95]⟩⟩
noncomputable def s4 : Str := ⟨⟨[95, 95, 100, 111, 99, 95, 95]⟩⟩
noncomputable def s5 : Str := ⟨⟨[95, 95, 112, 97, 99, 107, 97, 103, 101, 95, 95]⟩⟩
noncomputable def s6 : Str := ⟨⟨[95, 95, 108, 111, 97, 100, 101, 114, 95, 95]⟩⟩
noncomputable def s7 : Str := ⟨⟨[95, 95, 115, 112, 101, 99, 95, 95]⟩⟩
noncomputable def s8 : Str := ⟨⟨[95, 95, 97, 110, 110, 111, 116, 97, 116, 105, 111, 110, 115, 95, 95]⟩⟩
noncomputable def s9 : Str := ⟨⟨[95, 95, 98, 117, 105, 108, 116, 105, 110, 115, 95, 95]⟩⟩
noncomputable def s10 : Str := ⟨⟨[95, 95, 102, 105, 108, 101, 95, 95]⟩⟩
noncomputable def s11 : Str := ⟨⟨[95, 95, 99, 97, 99, 104, 101, 100, 95, 95]⟩⟩
noncomputable def s12 : Str := ⟨⟨[95, 119, 97, 108, 108]⟩⟩
noncomputable def s13 : Str := ⟨⟨[83, 69, 84, 95, 49]⟩⟩
noncomputable def s14 : Str := ⟨⟨[83, 69, 84, 95, 82, 85, 76, 69]⟩⟩
noncomputable def s15 : Str := ⟨⟨[80, 85, 84, 95, 49]⟩⟩
noncomputable def s16 : Str := ⟨⟨[80, 85, 84, 95, 82, 85, 76, 69]⟩⟩
noncomputable def s17 : Str := ⟨⟨[78, 79, 95, 79, 80, 69, 82, 65, 84, 73, 79, 78]⟩⟩
noncomputable def s18 : Str := ⟨⟨[80, 65, 71, 69, 95, 66, 69, 71, 73, 78]⟩⟩
noncomputable def s19 : Str := ⟨⟨[80, 65, 71, 69, 95, 69, 78, 68]⟩⟩
noncomputable def s20 : Str := ⟨⟨[80, 85, 83, 72]⟩⟩
noncomputable def s21 : Str := ⟨⟨[80, 79, 80]⟩⟩
noncomputable def s22 : Str := ⟨⟨[107]⟩⟩
noncomputable def s23 : Str := ⟨⟨[103, 108, 117, 101, 112, 97, 103, 101, 46, 101, 114, 114, 111, 114, 115]⟩⟩
noncomputable def s24 : Str := ⟨⟨[82, 73, 71, 72, 84, 95, 49]⟩⟩
noncomputable def s25 : Str := ⟨⟨[68, 79, 87, 78, 95, 49]⟩⟩
noncomputable def s26 : Str := ⟨⟨[70, 79, 78, 84, 95, 48]⟩⟩
noncomputable def s27 : Str := ⟨⟨[70, 79, 78, 84, 95, 49]⟩⟩
noncomputable def s28 : Str := ⟨⟨[83, 80, 69, 67, 73, 65, 76, 95, 49]⟩⟩
noncomputable def s29 : Str := ⟨⟨[70, 79, 78, 84, 95, 68, 69, 70, 95, 49]⟩⟩
noncomputable def s30 : Str := ⟨⟨[80, 82, 69, 65, 77, 66, 76, 69]⟩⟩
noncomputable def s31 : Str := ⟨⟨[80, 79, 83, 84, 65, 77, 66, 76, 69]⟩⟩
noncomputable def s32 : Str := ⟨⟨[80, 79, 83, 84, 95, 80, 79, 83, 84]⟩⟩
noncomputable def s33 : Str := ⟨⟨[70, 73, 76, 76, 73, 78, 71]⟩⟩
noncomputable def s34 : Str := ⟨⟨[73, 68, 69, 78, 84, 73, 84, 89]⟩⟩
noncomputable def s35 : Str := ⟨⟨[80, 97, 103, 101, 69, 114, 114, 111, 114]⟩⟩
noncomputable def s36 : Str := ⟨⟨[95, 95, 109, 111, 100, 117, 108, 101, 95, 95]⟩⟩
noncomputable def s37 : Str := ⟨⟨[95, 95, 113, 117, 97, 108, 110, 97, 109, 101, 95, 95]⟩⟩
noncomputable def s38 : Str := ⟨⟨[95, 95, 102, 105, 114, 115, 116, 108, 105, 110, 101, 110, 111, 95, 95]⟩⟩
noncomputable def s39 : Str := ⟨⟨[95, 95, 105, 110, 105, 116, 95, 95]⟩⟩
noncomputable def s40 : Str := ⟨⟨[95, 95, 115, 116, 97, 116, 105, 99, 95, 97, 116, 116, 114, 105, 98, 117, 116, 101, 115, 95, 95]⟩⟩
noncomputable def s41 : Str := ⟨⟨[]⟩⟩
noncomputable def s42 : Str := ⟨⟨[115, 101, 108, 102]⟩⟩
noncomputable def s43 : Str := ⟨⟨[114, 101, 97, 115, 111, 110]⟩⟩
noncomputable def s44 : Str := ⟨⟨[80, 97, 103, 101, 69, 114, 114, 111, 114, 46, 95, 95, 105, 110, 105, 116, 95, 95]⟩⟩
noncomputable def s45 : Str := ⟨⟨[95, 95, 119, 101, 97, 107, 114, 101, 102, 95, 95]⟩⟩
noncomputable def s46 : Str := ⟨⟨[66, 97, 100, 65, 114, 103, 117, 109, 101, 110, 116]⟩⟩
noncomputable def s47 : Str := ⟨⟨[66, 97, 100, 70, 111, 110, 116]⟩⟩
noncomputable def s48 : Str := ⟨⟨[103, 108, 117, 101, 112, 97, 103, 101, 46, 102, 111, 110, 116, 115]⟩⟩
noncomputable def s49 : Str := ⟨⟨[66, 97, 100, 68, 101, 118, 105, 99, 101]⟩⟩
noncomputable def s50 : Str := ⟨⟨[77, 65, 88, 95, 68, 73, 77, 69, 78]⟩⟩
noncomputable def s51 : Str := ⟨⟨[77, 65, 88, 95, 78, 85, 77, 66, 69, 82]⟩⟩
noncomputable def s52 : Str := ⟨⟨[105, 115, 95, 119, 104, 111, 108, 101]⟩⟩
noncomputable def s53 : Str := ⟨⟨[69, 68, 71, 69]⟩⟩
noncomputable def s54 : Str := ⟨⟨[77, 79, 83, 84, 95, 70, 79, 78, 84, 83]⟩⟩
noncomputable def s55 : Str := ⟨⟨[77, 79, 83, 84, 95, 80, 65, 82, 65, 77, 83]⟩⟩
noncomputable def s56 : Str := ⟨⟨[77, 79, 83, 84, 95, 83, 73, 90, 69]⟩⟩
noncomputable def s57 : Str := ⟨⟨[118, 97, 108, 117, 101]⟩⟩
noncomputable def s58 : Str := ⟨⟨[108, 111, 119]⟩⟩
noncomputable def s59 : Str := ⟨⟨[104, 105, 103, 104]⟩⟩
noncomputable def s60 : Str := ⟨⟨[103, 108, 117, 101, 112, 97, 103, 101, 46, 115, 99, 97, 108, 101, 100]⟩⟩
noncomputable def s61 : Str := ⟨⟨[80, 76, 65, 73, 78, 95, 83, 79, 82, 84]⟩⟩
noncomputable def s62 : Str := ⟨⟨[80, 82, 79, 71, 82, 65, 77, 95, 83, 79, 82, 84]⟩⟩
noncomputable def s63 : Str := ⟨⟨[76, 65, 82, 71, 69, 82, 95, 83, 79, 82, 84]⟩⟩
noncomputable def s64 : Str := ⟨⟨[80, 73, 69, 67, 69, 83, 95, 83, 79, 82, 84]⟩⟩
noncomputable def s65 : Str := ⟨⟨[83, 84, 79, 80, 95, 83, 75, 73, 80]⟩⟩
noncomputable def s66 : Str := ⟨⟨[75, 69, 82, 78, 95, 79, 80]⟩⟩
noncomputable def s67 : Str := ⟨⟨[76, 69, 65, 68]⟩⟩
noncomputable def s68 : Str := ⟨⟨[78, 79, 95, 67, 72, 65, 82, 65, 67, 84, 69, 82]⟩⟩
noncomputable def s69 : Str := ⟨⟨[76, 69, 84, 84, 69, 82, 83]⟩⟩
noncomputable def s70 : Str := ⟨⟨[97, 98, 99, 100, 101, 102, 103, 104, 106, 107, 108, 109, 110, 111, 112, 113, 114, 115, 116, 117, 118, 119, 120, 121, 122]⟩⟩
noncomputable def s71 : Str := ⟨⟨[83, 77, 65, 76, 76, 95, 80, 65, 82, 65, 77, 83]⟩⟩
noncomputable def s72 : Str := ⟨⟨[105, 115, 95, 115, 105, 122, 101]⟩⟩
noncomputable def s73 : Str := ⟨⟨[99, 104, 101, 99, 107, 95, 115, 105, 122, 101, 115]⟩⟩
noncomputable def s74 : Str := ⟨⟨[99, 104, 101, 99, 107, 95, 112, 105, 101, 99, 101, 115]⟩⟩
noncomputable def s75 : Str := ⟨⟨[99, 104, 101, 99, 107, 95, 99, 104, 97, 114, 115]⟩⟩
noncomputable def s76 : Str := ⟨⟨[99, 104, 101, 99, 107, 95, 108, 97, 114, 103, 101, 114]⟩⟩
noncomputable def s77 : Str := ⟨⟨[115, 105, 122, 101, 115]⟩⟩
noncomputable def s78 : Str := ⟨⟨[115, 105, 122, 101]⟩⟩
noncomputable def s79 : Str := ⟨⟨[112, 105, 101, 99, 101, 115]⟩⟩
noncomputable def s80 : Str := ⟨⟨[99, 104, 97, 114, 115]⟩⟩
noncomputable def s81 : Str := ⟨⟨[112, 108, 97, 99, 101]⟩⟩
noncomputable def s82 : Str := ⟨⟨[99, 111, 100, 101]⟩⟩
noncomputable def s83 : Str := ⟨⟨[109, 97, 110, 121]⟩⟩
noncomputable def s84 : Str := ⟨⟨[114, 111, 119]⟩⟩
noncomputable def s85 : Str := ⟨⟨[115, 111, 114, 116]⟩⟩
noncomputable def s86 : Str := ⟨⟨[114, 101, 115, 116]⟩⟩
noncomputable def s87 : Str := ⟨⟨[102, 97, 114]⟩⟩
noncomputable def s88 : Str := ⟨⟨[116, 117, 114, 110, 115]⟩⟩
noncomputable def s89 : Str := ⟨⟨[99, 104, 101, 99, 107, 95, 112, 114, 111, 103, 114, 97, 109]⟩⟩
noncomputable def s90 : Str := ⟨⟨[108, 101, 102, 116, 95, 115, 116, 97, 114, 116]⟩⟩
noncomputable def s91 : Str := ⟨⟨[112, 114, 111, 103, 114, 97, 109]⟩⟩
noncomputable def s92 : Str := ⟨⟨[107, 101, 114, 110, 115]⟩⟩
noncomputable def s93 : Str := ⟨⟨[98, 111, 117, 110, 100, 97, 114, 121]⟩⟩
noncomputable def s94 : Str := ⟨⟨[111, 99, 116, 101, 116]⟩⟩
noncomputable def s95 : Str := ⟨⟨[115, 107, 105, 112]⟩⟩
noncomputable def s96 : Str := ⟨⟨[102, 111, 108, 108, 111, 119, 105, 110, 103]⟩⟩
noncomputable def s97 : Str := ⟨⟨[111, 112]⟩⟩
noncomputable def s98 : Str := ⟨⟨[70, 111, 110, 116]⟩⟩
noncomputable def s99 : Str := ⟨⟨[104, 97, 115]⟩⟩
noncomputable def s100 : Str := ⟨⟨[119, 105, 100, 116, 104]⟩⟩
noncomputable def s101 : Str := ⟨⟨[104, 101, 105, 103, 104, 116]⟩⟩
noncomputable def s102 : Str := ⟨⟨[100, 101, 112, 116, 104]⟩⟩
noncomputable def s103 : Str := ⟨⟨[105, 116, 97, 108, 105, 99]⟩⟩
noncomputable def s104 : Str := ⟨⟨[115, 116, 97, 114, 116, 115]⟩⟩
noncomputable def s105 : Str := ⟨⟨[108, 97, 114, 103, 101, 114]⟩⟩
noncomputable def s106 : Str := ⟨⟨[112, 97, 114, 97, 109]⟩⟩
noncomputable def s107 : Str := ⟨⟨[115, 101, 116, 95, 112, 97, 114, 97, 109]⟩⟩
noncomputable def s108 : Str := ⟨⟨[110, 117, 109, 98, 101, 114]⟩⟩
noncomputable def s109 : Str := ⟨⟨[110, 97, 109, 101]⟩⟩
noncomputable def s110 : Str := ⟨⟨[112, 97, 114, 97, 109, 115]⟩⟩
noncomputable def s111 : Str := ⟨⟨[70, 111, 110, 116, 46, 95, 95, 105, 110, 105, 116, 95, 95]⟩⟩
noncomputable def s112 : Str := ⟨⟨[70, 111, 110, 116, 46, 104, 97, 115]⟩⟩
noncomputable def s113 : Str := ⟨⟨[70, 111, 110, 116, 46, 119, 105, 100, 116, 104]⟩⟩
noncomputable def s114 : Str := ⟨⟨[70, 111, 110, 116, 46, 104, 101, 105, 103, 104, 116]⟩⟩
noncomputable def s115 : Str := ⟨⟨[70, 111, 110, 116, 46, 100, 101, 112, 116, 104]⟩⟩
noncomputable def s116 : Str := ⟨⟨[70, 111, 110, 116, 46, 105, 116, 97, 108, 105, 99]⟩⟩
noncomputable def s117 : Str := ⟨⟨[70, 111, 110, 116, 46, 115, 116, 97, 114, 116, 115]⟩⟩
noncomputable def s118 : Str := ⟨⟨[70, 111, 110, 116, 46, 108, 97, 114, 103, 101, 114]⟩⟩
noncomputable def s119 : Str := ⟨⟨[70, 111, 110, 116, 46, 112, 105, 101, 99, 101, 115]⟩⟩
noncomputable def s120 : Str := ⟨⟨[70, 111, 110, 116, 46, 112, 97, 114, 97, 109]⟩⟩
noncomputable def s121 : Str := ⟨⟨[70, 111, 110, 116, 46, 115, 101, 116, 95, 112, 97, 114, 97, 109]⟩⟩
noncomputable def s122 : Str := ⟨⟨[99, 104, 101, 99, 107]⟩⟩
noncomputable def s123 : Str := ⟨⟨[100, 101, 115, 105, 103, 110]⟩⟩
noncomputable def s124 : Str := ⟨⟨[101, 100, 103, 101, 95, 115, 116, 97, 114, 116]⟩⟩
noncomputable def s125 : Str := ⟨⟨[104, 121, 112, 104, 101, 110, 95, 99, 104, 97, 114]⟩⟩
noncomputable def s126 : Str := ⟨⟨[115, 107, 101, 119, 95, 99, 104, 97, 114]⟩⟩
noncomputable def s127 : Str := ⟨⟨[95, 95, 100, 105, 99, 116, 95, 95]⟩⟩
noncomputable def s128 : Str := ⟨⟨[103, 108, 117, 101, 112, 97, 103, 101, 46, 100, 118, 105, 114, 101, 97, 100]⟩⟩
noncomputable def s129 : Str := ⟨⟨[102, 111, 110, 116, 95, 110, 97, 109, 101]⟩⟩
noncomputable def s130 : Str := ⟨⟨[102, 111, 110, 116, 95, 111, 102, 95, 114, 111, 119, 115]⟩⟩
noncomputable def s131 : Str := ⟨⟨[67, 72, 65, 82, 95, 82, 79, 87]⟩⟩
noncomputable def s132 : Str := ⟨⟨[82, 85, 76, 69, 95, 82, 79, 87]⟩⟩
noncomputable def s133 : Str := ⟨⟨[83, 80, 69, 67, 73, 65, 76, 95, 82, 79, 87]⟩⟩
noncomputable def s134 : Str := ⟨⟨[108, 101, 102, 116]⟩⟩
noncomputable def s135 : Str := ⟨⟨[102, 111, 117, 110, 100]⟩⟩
noncomputable def s136 : Str := ⟨⟨[114, 111, 119, 115]⟩⟩
noncomputable def s137 : Str := ⟨⟨[79, 99, 116, 101, 116, 83, 116, 114, 101, 97, 109]⟩⟩
noncomputable def s138 : Str := ⟨⟨[115, 105, 103, 110, 101, 100]⟩⟩
noncomputable def s139 : Str := ⟨⟨[116, 97, 107, 101, 110]⟩⟩
noncomputable def s140 : Str := ⟨⟨[111, 99, 116, 101, 116, 115]⟩⟩
noncomputable def s141 : Str := ⟨⟨[79, 99, 116, 101, 116, 83, 116, 114, 101, 97, 109, 46, 95, 95, 105, 110, 105, 116, 95, 95]⟩⟩
noncomputable def s142 : Str := ⟨⟨[114, 111, 111, 109]⟩⟩
noncomputable def s143 : Str := ⟨⟨[101, 110, 100]⟩⟩
noncomputable def s144 : Str := ⟨⟨[79, 99, 116, 101, 116, 83, 116, 114, 101, 97, 109, 46, 110, 117, 109, 98, 101, 114]⟩⟩
noncomputable def s145 : Str := ⟨⟨[104, 97, 108, 102]⟩⟩
noncomputable def s146 : Str := ⟨⟨[79, 99, 116, 101, 116, 83, 116, 114, 101, 97, 109, 46, 115, 105, 103, 110, 101, 100]⟩⟩
noncomputable def s147 : Str := ⟨⟨[79, 99, 116, 101, 116, 83, 116, 114, 101, 97, 109, 46, 116, 97, 107, 101, 110]⟩⟩
noncomputable def s148 : Str := ⟨⟨[97, 116]⟩⟩
noncomputable def s149 : Str := ⟨⟨[80, 97, 103, 101, 83, 116, 97, 116, 101]⟩⟩
noncomputable def s150 : Str := ⟨⟨[112, 117, 115, 104]⟩⟩
noncomputable def s151 : Str := ⟨⟨[112, 111, 112]⟩⟩
noncomputable def s152 : Str := ⟨⟨[103, 111]⟩⟩
noncomputable def s153 : Str := ⟨⟨[80, 97, 103, 101, 83, 116, 97, 116, 101, 46, 95, 95, 105, 110, 105, 116, 95, 95]⟩⟩
noncomputable def s154 : Str := ⟨⟨[80, 97, 103, 101, 83, 116, 97, 116, 101, 46, 112, 117, 115, 104]⟩⟩
noncomputable def s155 : Str := ⟨⟨[80, 97, 103, 101, 83, 116, 97, 116, 101, 46, 112, 111, 112]⟩⟩
noncomputable def s156 : Str := ⟨⟨[97, 99, 114, 111, 115, 115]⟩⟩
noncomputable def s157 : Str := ⟨⟨[100, 111, 119, 110]⟩⟩
noncomputable def s158 : Str := ⟨⟨[104]⟩⟩
noncomputable def s159 : Str := ⟨⟨[118]⟩⟩
noncomputable def s160 : Str := ⟨⟨[80, 97, 103, 101, 83, 116, 97, 116, 101, 46, 103, 111]⟩⟩
noncomputable def s161 : Str := ⟨⟨[100, 101, 101, 112, 101, 115, 116]⟩⟩
noncomputable def s162 : Str := ⟨⟨[102, 111, 110, 116]⟩⟩
noncomputable def s163 : Str := ⟨⟨[115, 116, 97, 99, 107]⟩⟩
noncomputable def s164 : Str := ⟨⟨[119]⟩⟩
noncomputable def s165 : Str := ⟨⟨[120]⟩⟩
noncomputable def s166 : Str := ⟨⟨[121]⟩⟩
noncomputable def s167 : Str := ⟨⟨[122]⟩⟩
noncomputable def s168 : Str := ⟨⟨[68, 101, 118, 105, 99, 101]⟩⟩
noncomputable def s169 : Str := ⟨⟨[114, 101, 97, 100, 95, 117, 110, 105, 116, 115]⟩⟩
noncomputable def s170 : Str := ⟨⟨[114, 101, 97, 100, 95, 102, 111, 110, 116]⟩⟩
noncomputable def s171 : Str := ⟨⟨[105, 115, 95, 102, 111, 110, 116, 95, 100, 101, 102, 105, 110, 105, 116, 105, 111, 110]⟩⟩
noncomputable def s172 : Str := ⟨⟨[114, 101, 97, 100, 95, 109, 111, 118, 101]⟩⟩
noncomputable def s173 : Str := ⟨⟨[114, 101, 97, 100, 95, 108, 101, 116, 116, 101, 114]⟩⟩
noncomputable def s174 : Str := ⟨⟨[117, 110, 105, 116, 115]⟩⟩
noncomputable def s175 : Str := ⟨⟨[99, 111, 109, 109, 101, 110, 116]⟩⟩
noncomputable def s176 : Str := ⟨⟨[68, 101, 118, 105, 99, 101, 46, 95, 95, 105, 110, 105, 116, 95, 95]⟩⟩
noncomputable def s177 : Str := ⟨⟨[102, 111, 110, 116, 115]⟩⟩
noncomputable def s178 : Str := ⟨⟨[112, 97, 103, 101, 115]⟩⟩
noncomputable def s179 : Str := ⟨⟨[116, 97, 108, 108, 101, 115, 116]⟩⟩
noncomputable def s180 : Str := ⟨⟨[119, 105, 100, 101, 115, 116]⟩⟩
noncomputable def s181 : Str := ⟨⟨[115, 116, 114, 101, 97, 109]⟩⟩
noncomputable def s182 : Str := ⟨⟨[111, 112, 99, 111, 100, 101]⟩⟩
noncomputable def s183 : Str := ⟨⟨[119, 104, 105, 99, 104]⟩⟩
noncomputable def s184 : Str := ⟨⟨[102, 105, 114, 115, 116]⟩⟩
noncomputable def s185 : Str := ⟨⟨[115, 101, 99, 111, 110, 100]⟩⟩
noncomputable def s186 : Str := ⟨⟨[115, 116, 97, 116, 101]⟩⟩
noncomputable def s187 : Str := ⟨⟨[109, 111, 118, 101, 115]⟩⟩
noncomputable def s188 : Str := ⟨⟨[108, 97, 119, 95, 116, 117, 48, 48, 48, 52, 95, 48, 49]⟩⟩
noncomputable def s189 : Str := ⟨⟨[114, 101, 97, 100, 95, 114, 117, 108, 101]⟩⟩
noncomputable def s190 : Str := ⟨⟨[99, 104, 111, 111, 115, 101, 95, 102, 111, 110, 116]⟩⟩
noncomputable def s191 : Str := ⟨⟨[97, 100, 100, 95, 102, 111, 110, 116]⟩⟩
noncomputable def s192 : Str := ⟨⟨[112, 97, 103, 101, 95, 115, 116, 101, 112]⟩⟩
noncomputable def s193 : Str := ⟨⟨[114, 101, 97, 100, 95, 112, 97, 103, 101]⟩⟩
noncomputable def s194 : Str := ⟨⟨[114, 101, 97, 100, 95, 112, 111, 115, 116, 95, 102, 111, 110, 116, 115]⟩⟩
noncomputable def s195 : Str := ⟨⟨[114, 101, 97, 100, 95, 112, 111, 115, 116, 97, 109, 98, 108, 101]⟩⟩
noncomputable def s196 : Str := ⟨⟨[114, 101, 97, 100, 95, 102, 105, 108, 101]⟩⟩
noncomputable def s197 : Str := ⟨⟨[95, 108, 97, 119, 95, 115, 111, 117, 114, 99, 101]⟩⟩
noncomputable def s198 : Str := ⟨⟨[95, 108, 97, 119, 95, 116, 97, 107, 101]⟩⟩
noncomputable def s199 : Str := ⟨⟨[95, 108, 97, 119, 95, 119, 105, 100, 116, 104, 115]⟩⟩
noncomputable def s200 : Str := ⟨⟨[95, 108, 97, 119, 95, 112, 117, 116]⟩⟩
noncomputable def s201 : Str := ⟨⟨[107, 110, 111, 119, 110]⟩⟩
noncomputable def s202 : Str := ⟨⟨[116, 111, 108, 100]⟩⟩
noncomputable def s203 : Str := ⟨⟨[100, 101, 118, 105, 99, 101]⟩⟩
noncomputable def s204 : Str := ⟨⟨[108, 97, 115, 116]⟩⟩
noncomputable def s205 : Str := ⟨⟨[98, 101, 103, 105, 110]⟩⟩
noncomputable def s206 : Str := ⟨⟨[99, 111, 117, 110, 116, 115]⟩⟩
noncomputable def s207 : Str := ⟨⟨[115, 111, 117, 114, 99, 101]⟩⟩
noncomputable def s208 : Str := ⟨⟨[100, 105, 103, 105, 116]⟩⟩
noncomputable def s209 : Str := ⟨⟨[109, 105, 120, 101, 100]⟩⟩
noncomputable def s210 : Str := ⟨⟨[95, 108, 97, 119, 95, 102, 97, 114]⟩⟩
noncomputable def s211 : Str := ⟨⟨[95, 108, 97, 119, 95, 109, 111, 118, 101]⟩⟩
noncomputable def s212 : Str := ⟨⟨[95, 108, 97, 119, 95, 98, 101, 116, 119, 101, 101, 110]⟩⟩
noncomputable def s213 : Str := ⟨⟨[95, 108, 97, 119, 95, 105, 100, 108, 101]⟩⟩
noncomputable def s214 : Str := ⟨⟨[95, 108, 97, 119, 95, 108, 101, 116, 116, 101, 114]⟩⟩
noncomputable def s215 : Str := ⟨⟨[95, 108, 97, 119, 95, 114, 117, 108, 101, 100]⟩⟩
noncomputable def s216 : Str := ⟨⟨[95, 108, 97, 119, 95, 109, 111, 118, 101, 100]⟩⟩
noncomputable def s217 : Str := ⟨⟨[95, 108, 97, 119, 95, 100, 101, 102, 105, 110, 101, 100]⟩⟩
noncomputable def s218 : Str := ⟨⟨[95, 108, 97, 119, 95, 99, 104, 111, 105, 99, 101]⟩⟩
noncomputable def s219 : Str := ⟨⟨[95, 108, 97, 119, 95, 110, 111, 116, 101, 100]⟩⟩
noncomputable def s220 : Str := ⟨⟨[95, 108, 97, 119, 95, 115, 116, 101, 112]⟩⟩
noncomputable def s221 : Str := ⟨⟨[95, 108, 97, 119, 95, 112, 97, 103, 101]⟩⟩
noncomputable def s222 : Str := ⟨⟨[119, 97, 121]⟩⟩
noncomputable def s223 : Str := ⟨⟨[99, 111, 117, 110, 116]⟩⟩
noncomputable def s224 : Str := ⟨⟨[109, 111, 114, 101]⟩⟩
noncomputable def s225 : Str := ⟨⟨[112, 97, 103, 101]⟩⟩
noncomputable def s226 : Str := ⟨⟨[111, 110, 101]⟩⟩
noncomputable def s227 : Str := ⟨⟨[116, 119, 111]⟩⟩
noncomputable def s228 : Str := ⟨⟨[97, 120, 105, 115]⟩⟩
noncomputable def s229 : Str := ⟨⟨[115, 112, 111, 116]⟩⟩
noncomputable def s230 : Str := ⟨⟨[95, 108, 97, 119, 95, 102, 105, 108, 101]⟩⟩
noncomputable def s231 : Str := ⟨⟨[95, 108, 97, 119, 95, 115, 97, 105, 100]⟩⟩
noncomputable def s232 : Str := ⟨⟨[108, 97, 119]⟩⟩
noncomputable def s233 : Str := ⟨⟨[112, 108, 97, 105, 110]⟩⟩
noncomputable def s234 : Str := ⟨⟨[102, 114, 111, 110, 116]⟩⟩
noncomputable def s235 : Str := ⟨⟨[105, 100, 108, 101]⟩⟩
noncomputable def s236 : Str := ⟨⟨[100, 101, 102, 105, 110, 105, 116, 105, 111, 110, 115]⟩⟩
noncomputable def s237 : Str := ⟨⟨[102, 105, 108, 108, 105, 110, 103]⟩⟩
noncomputable def s238 : Str := ⟨⟨[97, 109, 111, 117, 110, 116]⟩⟩
noncomputable def s239 : Str := ⟨⟨[112, 111, 115, 116]⟩⟩
noncomputable abbrev z5 := SL.s14018661285674007319x4
noncomputable abbrev z7 := SL.s17162191345867700912x4
noncomputable abbrev z8 := SL.s2742458400755230247x6
noncomputable abbrev z10 := SL.s4209523147560561109x18
noncomputable abbrev z11 := SL.s4278001404047624695x13
noncomputable abbrev z14 := SL.s5856160107412720595x4
noncomputable abbrev z15 := SL.s5946037652744460706x9
noncomputable abbrev z17 := SL.s6070975301684473832x10
noncomputable abbrev z20 := SL.s7097527257260152453x26
noncomputable abbrev z21 := SL.s7174869446012820540x8
noncomputable abbrev tu (l : List Value) : Obj := ⟨(.type SL.s2766695959194262286x5), none, (.seq ⟨l⟩ 0), ⟨[]⟩⟩
noncomputable def k0 : Obj := ⟨.none, none, (.fields ⟨[]⟩), ⟨[]⟩⟩
noncomputable def k1 := fun (a0 : Str) (a1 : Nat) (a2 : Str) (a3 : Int) (a4 : Int) (a5 : Nat) (a6 : Int) (a7 : Nat) => (⟨(.type z14), none, (.fields ⟨[(.str a0 a1), (.str a2 (a1 + 1)), (.str s1 (a1 + 2)), (.int a3 0), (.int a4 0), (.int 0 0), (.int 0 0), (.int 3 0), (.ref a5), (.bool true), (.int 181 0), (.ref (a5 + 1)), .none, (.ref (a5 + 2)), (.ref (a5 + 3)), (.ref (a5 + 4)), (.int a6 0), (.int a3 0), (.str s1 a7)]⟩), ⟨[]⟩⟩ : Obj)
noncomputable def k2 := fun (a0 : Str) (a1 : Nat) => (⟨.none, none, (.func ⟨a0, a0, fA (st a1), .stmts (fB (st a1)), fS (st a1), 0, [], .none, .none, .none, .none, none, .none, .none, 0⟩), ⟨[]⟩⟩ : Obj)
noncomputable def k3 := fun (a0 : Str) (a1 : Nat) (a2 : Str) (a3 : Nat) (a4 : Nat) => (⟨(.type z21), none, (.func ⟨a0, a0, fA (st a1), .stmts (fB (st a1)), fS (st a1), 3, [], .none, .none, .none, (.str a2 a3), none, (.ref a4), .none, 0⟩), ⟨[]⟩⟩ : Obj)
noncomputable def k4 := fun (a0 : Str) (a1 : Str) (a2 : Nat) (a3 : Nat) => (⟨.none, none, (.func ⟨a0, a1, fA (stc a2 a3), .stmts (fB (stc a2 a3)), fS (stc a2 a3), 0, [], .none, .none, .none, .none, none, .none, .none, 0⟩), ⟨[]⟩⟩ : Obj)
noncomputable def k5 := fun (a0 : Str) (a1 : Str) (a2 : Nat) (a3 : Nat) (a4 : Str) (a5 : Nat) (a6 : Nat) => (⟨(.type z21), none, (.func ⟨a0, a1, fA (stc a2 a3), .stmts (fB (stc a2 a3)), fS (stc a2 a3), 3, [], .none, .none, .none, (.str a4 a5), none, (.ref a6), .none, 0⟩), ⟨[]⟩⟩ : Obj)
noncomputable def k6 := fun (a0 : Str) (a1 : Nat) (a2 : Int) (a3 : Nat) (a4 : Int) => (⟨(.type z14), none, (.fields ⟨[(.str a0 a1), (.str a0 (a1 + 1)), (.str s1 (a1 + 2)), (.int a2 0), (.int 0 0), (.int 0 0), (.int 0 0), (.int 0 0), (.ref a3), (.bool false), (.int 181 0), (.ref (a3 + 1)), .none, .none, .none, .none, (.int a4 0), (.int a2 0), (.str s1 (a1 + 4))]⟩), ⟨[]⟩⟩ : Obj)
noncomputable def k7 := fun (a0 : Nat) (a1 : Nat) (a2 : Str) (a3 : Nat) => (⟨(.type SL.s658472552662922059x5), none, .plain, ⟨[(some (.ref a0)), (some (.ref 3)), (some (.ref a1)), none, (some (.str a2 a3)), none, (some (.ref 0))]⟩⟩ : Obj)
noncomputable def k8 := fun (a0 : Str) (a1 : Nat) (a2 : Int) (a3 : Int) (a4 : Nat) (a5 : Int) => (⟨(.type z14), none, (.fields ⟨[(.str a0 a1), (.str a0 (a1 + 1)), (.str s1 (a1 + 2)), (.int a2 0), (.int a3 0), (.int 0 0), (.int 0 0), (.int 3 0), (.ref a4), (.bool true), (.int 181 0), (.ref (a4 + 1)), .none, .none, .none, (.ref (a4 + 2)), (.int a5 0), (.int a2 0), (.str s1 (a1 + 4))]⟩), ⟨[]⟩⟩ : Obj)
noncomputable def k9 : Obj := ⟨(.type SL.s11030030927630378310x26), none, (.fields ⟨[(.builtin SL.s10062305145149207511x16), (.type z7)]⟩), ⟨[]⟩⟩
noncomputable def k10 := fun (a0 : Nat) => (⟨(.type SL.s4290257624100764138x5), none, (.fields ⟨[(.ref a0), (.ref a0), (.ref a0)]⟩), ⟨[]⟩⟩ : Obj)
noncomputable def k11 := fun (a0 : Nat) => (⟨(.type SL.s11030030927630378310x26), none, (.fields ⟨[(.builtin SL.s4860613602091757760x24), (.ref a0)]⟩), ⟨[]⟩⟩ : Obj)
noncomputable def k12 := fun (a0 : Int) => (⟨(.type SL.s4096838299382398694x14), none, (.fields ⟨[.none, (.int a0 0)]⟩), ⟨[]⟩⟩ : Obj)
noncomputable def k13 := fun (a0 : Nat) => (⟨(.type SL.s5991306692159431302x13), none, (.fields ⟨[(.ref a0), .none, .none, .none, (.bool false), .none]⟩), ⟨[]⟩⟩ : Obj)
noncomputable def k14 := fun (a0 : Nat) (a1 : Nat) => (⟨(.type SL.s14755015743595814543x17), none, (.fields ⟨[(.str s45 a0), (.ref a1), (.builtin SL.s10220274742760427390x26), .none]⟩), ⟨[]⟩⟩ : Obj)
noncomputable def k15 := fun (a0 : Str) (a1 : Nat) (a2 : Nat) (a3 : Nat) => (⟨(.type z7), none, (.cls ⟨a0, [(.type z8)], [(.ref a1), (.type z8)], a2, a0, true, [], [], false, none, false⟩), ⟨[none, none, (some (.str a0 a3)), (some (.str a0 (a3 + 8))), (some (.builtin SL.s11443829558043349243x14)), (some (.bool true))]⟩⟩ : Obj)
noncomputable def k16 := fun (a0 : Nat) (a1 : Nat) => (⟨(.type SL.s14755015743595814543x17), none, (.fields ⟨[(.str s127 a0), (.ref a1), (.builtin SL.s6511155373996960695x17), (.builtin SL.s12411053484034534018x21)]⟩), ⟨[]⟩⟩ : Obj)
noncomputable def k17 := fun (a0 : Int) (a1 : Int) (a2 : Nat) => (⟨.none, none, (.fields ⟨[(.int a0 0), (.int a1 0), (.ref a2)]⟩), ⟨[]⟩⟩ : Obj)
noncomputable def k18 := fun (a0 : Str) (a1 : Nat) (a2 : Nat) (a3 : Nat) (a4 : Nat) => (⟨(.type z7), none, (.cls ⟨a0, [(.ref 51)], [(.ref a1), (.ref 51), (.type z17), (.type z15), (.type z11), (.type z8)], a2, a0, true, [], [], false, none, false⟩), ⟨[(some (.ref a3)), none, (some (.str a0 a4)), (some (.str a0 (a4 + 8))), (some (.builtin z10)), (some (.bool true))]⟩⟩ : Obj)
noncomputable def o1 (P : Params) : Obj := k0
noncomputable def o4 (P : Params) : Obj := ⟨(.type z5), none, (.dict ⟨[(e P s3 165 (.str s2 164)), (e P s4 166 .none), (e P s5 167 .none), (e P s6 168 (.builtin z20)), (e P s7 169 .none), (e P s8 170 (.ref 6)), (e P s9 171 (.ref 4)), (e P s10 173 (.str s1 172)), (e P s11 174 .none), (e P s12 193 (.ref 21)), (e P s13 203 (.int 128 194)), (e P s14 204 (.int 132 195)), (e P s15 205 (.int 133 196)), (e P s16 206 (.int 137 197)), (e P s17 207 (.int 138 198)), (e P s18 208 (.int 139 199)), (e P s19 209 (.int 140 200)), (e P s20 210 (.int 141 201)), (e P s21 211 (.int 142 202))]⟩ 19), ⟨[]⟩⟩
noncomputable def o5 (P : Params) : Obj := k17 1 0 20
noncomputable def o17 (P : Params) : Obj := ⟨(.type z5), none, (.dict ⟨[(e P s3 165 (.str s23 234)), (e P s4 166 .none), (e P s5 167 .none), (e P s6 168 (.builtin z20)), (e P s7 169 .none), (e P s8 170 (.ref 6)), (e P s9 171 (.ref 4)), (e P s10 173 (.str s1 172)), (e P s11 174 .none), (e P s12 193 (.ref 21)), (e P s13 203 (.int 128 194)), (e P s14 204 (.int 132 195)), (e P s15 205 (.int 133 196)), (e P s16 206 (.int 137 197)), (e P s17 207 (.int 138 198)), (e P s18 208 (.int 139 199)), (e P s19 209 (.int 140 200)), (e P s20 210 (.int 141 201)), (e P s21 211 (.int 142 202)), (e P s24 221 (.int 143 212)), (e P s25 222 (.int 157 213)), (e P s26 223 (.int 171 214)), (e P s27 224 (.int 235 215)), (e P s28 225 (.int 239 216)), (e P s29 226 (.int 243 217)), (e P s30 227 (.int 247 218)), (e P s31 228 (.int 248 219)), (e P s32 229 (.int 249 220)), (e P s33 232 (.int 223 230)), (e P s34 233 (.int 2 231))]⟩ 30), ⟨[]⟩⟩
noncomputable def o26 (P : Params) : Obj := dmore (o17 P) [(e P s35 263 (.ref 51))] 31
noncomputable def o27 (P : Params) : Obj := ⟨.none, none, (.fields ⟨[(.int 1 0), (.int 0 0), (.ref 20), (.int 8 0), (.int 0 0), (.ref 39)]⟩), ⟨[]⟩⟩
noncomputable def o45 (P : Params) : Obj := ⟨(.type z7), none, (.cls ⟨s35, [(.type z17)], [(.ref 51), (.type z17), (.type z15), (.type z11), (.type z8)], 50, s35, true, [], [], false, none, false⟩), ⟨[(some (.ref 34)), none, (some (.str s35 236)), (some (.str s35 244)), (some (.builtin z10)), (some (.bool true))]⟩⟩
noncomputable def o49 (P : Params) : Obj := dmore (o26 P) [(e P s46 279 (.ref 64))] 32
noncomputable def o50 (P : Params) : Obj := ⟨.none, none, (.fields ⟨[(.int 1 0), (.int 0 0), (.ref 20), (.int 8 0), (.int 0 0), (.ref 39), (.int 12 0), (.int 0 0), (.ref 60)]⟩), ⟨[]⟩⟩
noncomputable def o51 (P : Params) : Obj := ⟨(.type z7), none, (.cls ⟨s35, [(.type z17)], [(.ref 51), (.type z17), (.type z15), (.type z11), (.type z8)], 50, s35, true, [], [(.ref 64)], false, none, false⟩), ⟨[(some (.ref 34)), none, (some (.str s35 236)), (some (.str s35 244)), (some (.builtin z10)), (some (.bool true))]⟩⟩
noncomputable def o64 (P : Params) : Obj := dmore (o49 P) [(e P s47 295 (.ref 76))] 33
noncomputable def o65 (P : Params) : Obj := fmore (o50 P) [(.int 14 0), (.int 0 0), (.ref 72)]
noncomputable def o66 (P : Params) : Obj := ⟨(.type z7), none, (.cls ⟨s35, [(.type z17)], [(.ref 51), (.type z17), (.type z15), (.type z11), (.type z8)], 50, s35, true, [], [(.ref 64), (.ref 76)], false, none, false⟩), ⟨[(some (.ref 34)), none, (some (.str s35 236)), (some (.str s35 244)), (some (.builtin z10)), (some (.bool true))]⟩⟩
noncomputable def o79 (P : Params) : Obj := ⟨(.type z5), none, (.dict ⟨[(e P s3 165 (.str s48 335)), (e P s4 166 .none), (e P s5 167 .none), (e P s6 168 (.builtin z20)), (e P s7 169 .none), (e P s8 170 (.ref 6)), (e P s9 171 (.ref 4)), (e P s10 173 (.str s1 172)), (e P s11 174 .none), (e P s12 193 (.ref 21)), (e P s13 203 (.int 128 194)), (e P s14 204 (.int 132 195)), (e P s15 205 (.int 133 196)), (e P s16 206 (.int 137 197)), (e P s17 207 (.int 138 198)), (e P s18 208 (.int 139 199)), (e P s19 209 (.int 140 200)), (e P s20 210 (.int 141 201)), (e P s21 211 (.int 142 202)), (e P s24 221 (.int 143 212)), (e P s25 222 (.int 157 213)), (e P s26 223 (.int 171 214)), (e P s27 224 (.int 235 215)), (e P s28 225 (.int 239 216)), (e P s29 226 (.int 243 217)), (e P s30 227 (.int 247 218)), (e P s31 228 (.int 248 219)), (e P s32 229 (.int 249 220)), (e P s33 232 (.int 223 230)), (e P s34 233 (.int 2 231)), (e P s35 263 (.ref 51)), (e P s46 279 (.ref 64)), (e P s47 295 (.ref 76)), (e P s49 311 (.ref 88)), (e P s50 319 (.int 1073741823 318)), (e P s51 325 (.int 2147483647 324)), (e P s52 334 (.ref 97)), (e P s53 338 (.int 256 337)), (e P s54 340 (.int 255 339)), (e P s55 342 (.int 64 341)), (e P s56 348 (.int 134217727 347))]⟩ 41), ⟨[]⟩⟩
noncomputable def o80 (P : Params) : Obj := fmore (o65 P) [(.int 16 0), (.int 0 0), (.ref 84), (.int 21 0), (.int 0 0), (.ref 96)]
noncomputable def o101 (P : Params) : Obj := dmore (o79 P) [(e P s61 353 (.int 0 349)), (e P s62 354 (.int 1 350)), (e P s63 355 (.int 2 351)), (e P s64 356 (.int 3 352)), (e P s65 360 (.int 128 357)), (e P s66 361 (.int 128 358)), (e P s67 362 (.int 255 359)), (e P s68 369 (.ref 106)), (e P s69 371 (.str s70 370)), (e P s71 379 (.ref 107)), (e P s72 386 (.ref 114)), (e P s73 394 (.ref 121)), (e P s74 404 (.ref 128)), (e P s75 416 (.ref 135)), (e P s76 426 (.ref 142))] 56
noncomputable def o102 (P : Params) : Obj := fmore (o80 P) [(.int 33 0), (.int 0 0), (.ref 113), (.int 35 0), (.int 0 0), (.ref 120), (.int 39 0), (.int 0 0), (.ref 127), (.int 45 0), (.int 0 0), (.ref 134), (.int 57 0), (.int 0 0), (.ref 141)]
noncomputable def o148 (P : Params) : Obj := dmore (o101 P) [(e P s89 444 (.ref 149)), (e P s90 455 (.ref 156))] 58
noncomputable def o149 (P : Params) : Obj := fmore (o102 P) [(.int 65 0), (.int 0 0), (.ref 148), (.int 84 0), (.int 0 0), (.ref 155)]
noncomputable def o164 (P : Params) : Obj := dmore (o148 P) [(e P s98 586 (.ref 246))] 59
noncomputable def o165 (P : Params) : Obj := fmore (o149 P) [(.int 89 0), (.int 0 0), (.ref 162)]
noncomputable def o175 (P : Params) : Obj := tu [(.ref 164), (.ref 165), (.int 256 337)]
noncomputable def o182 (P : Params) : Obj := ⟨(.type z21), none, (.func ⟨s39, s111, fA (stc 30 0), .stmts (fB (stc 30 0)), fS (stc 30 0), 3, [], (.ref 166), .none, .none, (.str s48 335), none, (.ref 172), .none, 0⟩), ⟨[]⟩⟩
noncomputable def o260 (P : Params) : Obj := ⟨(.type z5), none, (.dict ⟨[(e P s3 165 (.str s128 610)), (e P s4 166 .none), (e P s5 167 .none), (e P s6 168 (.builtin z20)), (e P s7 169 .none), (e P s8 170 (.ref 6)), (e P s9 171 (.ref 4)), (e P s10 173 (.str s1 172)), (e P s11 174 .none), (e P s12 193 (.ref 21)), (e P s13 203 (.int 128 194)), (e P s14 204 (.int 132 195)), (e P s15 205 (.int 133 196)), (e P s16 206 (.int 137 197)), (e P s17 207 (.int 138 198)), (e P s18 208 (.int 139 199)), (e P s19 209 (.int 140 200)), (e P s20 210 (.int 141 201)), (e P s21 211 (.int 142 202)), (e P s24 221 (.int 143 212)), (e P s25 222 (.int 157 213)), (e P s26 223 (.int 171 214)), (e P s27 224 (.int 235 215)), (e P s28 225 (.int 239 216)), (e P s29 226 (.int 243 217)), (e P s30 227 (.int 247 218)), (e P s31 228 (.int 248 219)), (e P s32 229 (.int 249 220)), (e P s33 232 (.int 223 230)), (e P s34 233 (.int 2 231)), (e P s35 263 (.ref 51)), (e P s46 279 (.ref 64)), (e P s47 295 (.ref 76)), (e P s49 311 (.ref 88)), (e P s50 319 (.int 1073741823 318)), (e P s51 325 (.int 2147483647 324)), (e P s52 334 (.ref 97)), (e P s53 338 (.int 256 337)), (e P s54 340 (.int 255 339)), (e P s55 342 (.int 64 341)), (e P s56 348 (.int 134217727 347)), (e P s61 353 (.int 0 349)), (e P s62 354 (.int 1 350)), (e P s63 355 (.int 2 351)), (e P s64 356 (.int 3 352)), (e P s65 360 (.int 128 357)), (e P s66 361 (.int 128 358)), (e P s67 362 (.int 255 359)), (e P s68 369 (.ref 106)), (e P s69 371 (.str s70 370)), (e P s71 379 (.ref 107)), (e P s72 386 (.ref 114)), (e P s73 394 (.ref 121)), (e P s74 404 (.ref 128)), (e P s75 416 (.ref 135)), (e P s76 426 (.ref 142)), (e P s89 444 (.ref 149)), (e P s90 455 (.ref 156)), (e P s98 586 (.ref 246)), (e P s129 595 (.ref 257)), (e P s130 609 (.ref 267)), (e P s131 615 (.int 0 612)), (e P s132 616 (.int 1 613)), (e P s133 617 (.int 2 614))]⟩ 64), ⟨[]⟩⟩
noncomputable def o261 (P : Params) : Obj := fmore (o165 P) [(.int 146 0), (.int 0 0), (.ref 256), (.int 153 0), (.int 0 0), (.ref 266)]
noncomputable def o271 (P : Params) : Obj := tu [(.ref 107), (.ref 258), (.ref 259), (.int 256 337)]
noncomputable def o278 (P : Params) : Obj := ⟨(.type z21), none, (.func ⟨s130, s130, fA (st 32), .stmts (fB (st 32)), fS (st 32), 3, [], (.ref 260), .none, .none, (.str s48 335), none, (.ref 266), .none, 0⟩), ⟨[]⟩⟩
noncomputable def o283 (P : Params) : Obj := dmore (o260 P) [(e P s137 678 (.ref 309))] 65
noncomputable def o284 (P : Params) : Obj := fmore (o261 P) [(.int 164 0), (.int 0 0), (.ref 277)]
noncomputable def o327 (P : Params) : Obj := dmore (o283 P) [(e P s149 740 (.ref 351))] 66
noncomputable def o328 (P : Params) : Obj := fmore (o284 P) [(.int 196 0), (.int 0 0), (.ref 319)]
noncomputable def o371 (P : Params) : Obj := dmore (o327 P) [(e P s168 776 (.ref 372)), (e P s169 784 (.ref 383)), (e P s170 790 (.ref 388)), (e P s171 797 (.ref 395)), (e P s172 807 (.ref 402)), (e P s173 818 (.ref 409))] 72
noncomputable def o372 (P : Params) : Obj := fmore (o328 P) [(.int 225 0), (.int 0 0), (.ref 361), (.int 235 0), (.int 0 0), (.ref 382), (.int 240 0), (.int 0 0), (.ref 387), (.int 256 0), (.int 0 0), (.ref 394), (.int 258 0), (.int 0 0), (.ref 401), (.int 268 0), (.int 0 0), (.ref 408)]
noncomputable def o427 (P : Params) : Obj := ⟨(.type z5), none, (.dict ⟨[(e P s3 165 (.str s188 906)), (e P s4 166 .none), (e P s5 167 .none), (e P s6 168 (.builtin z20)), (e P s7 169 .none), (e P s8 170 (.ref 6)), (e P s9 171 (.ref 4)), (e P s10 173 (.str s1 172)), (e P s11 174 .none), (e P s12 193 (.ref 21)), (e P s13 203 (.int 128 194)), (e P s14 204 (.int 132 195)), (e P s15 205 (.int 133 196)), (e P s16 206 (.int 137 197)), (e P s17 207 (.int 138 198)), (e P s18 208 (.int 139 199)), (e P s19 209 (.int 140 200)), (e P s20 210 (.int 141 201)), (e P s21 211 (.int 142 202)), (e P s24 221 (.int 143 212)), (e P s25 222 (.int 157 213)), (e P s26 223 (.int 171 214)), (e P s27 224 (.int 235 215)), (e P s28 225 (.int 239 216)), (e P s29 226 (.int 243 217)), (e P s30 227 (.int 247 218)), (e P s31 228 (.int 248 219)), (e P s32 229 (.int 249 220)), (e P s33 232 (.int 223 230)), (e P s34 233 (.int 2 231)), (e P s35 263 (.ref 51)), (e P s46 279 (.ref 64)), (e P s47 295 (.ref 76)), (e P s49 311 (.ref 88)), (e P s50 319 (.int 1073741823 318)), (e P s51 325 (.int 2147483647 324)), (e P s52 334 (.ref 97)), (e P s53 338 (.int 256 337)), (e P s54 340 (.int 255 339)), (e P s55 342 (.int 64 341)), (e P s56 348 (.int 134217727 347)), (e P s61 353 (.int 0 349)), (e P s62 354 (.int 1 350)), (e P s63 355 (.int 2 351)), (e P s64 356 (.int 3 352)), (e P s65 360 (.int 128 357)), (e P s66 361 (.int 128 358)), (e P s67 362 (.int 255 359)), (e P s68 369 (.ref 106)), (e P s69 371 (.str s70 370)), (e P s71 379 (.ref 107)), (e P s72 386 (.ref 114)), (e P s73 394 (.ref 121)), (e P s74 404 (.ref 128)), (e P s75 416 (.ref 135)), (e P s76 426 (.ref 142)), (e P s89 444 (.ref 149)), (e P s90 455 (.ref 156)), (e P s98 586 (.ref 246)), (e P s129 595 (.ref 257)), (e P s130 609 (.ref 267)), (e P s131 615 (.int 0 612)), (e P s132 616 (.int 1 613)), (e P s133 617 (.int 2 614)), (e P s137 678 (.ref 309)), (e P s149 740 (.ref 351)), (e P s168 776 (.ref 372)), (e P s169 784 (.ref 383)), (e P s170 790 (.ref 388)), (e P s171 797 (.ref 395)), (e P s172 807 (.ref 402)), (e P s173 818 (.ref 409)), (e P s189 829 (.ref 416)), (e P s190 838 (.ref 423)), (e P s191 850 (.ref 430)), (e P s192 863 (.ref 437)), (e P s193 869 (.ref 442)), (e P s194 882 (.ref 449)), (e P s195 888 (.ref 454)), (e P s196 905 (.ref 461)), (e P s197 913 (.ref 466)), (e P s198 923 (.ref 473)), (e P s199 930 (.ref 480)), (e P s200 936 (.ref 485))]⟩ 84), ⟨[]⟩⟩
noncomputable def o428 (P : Params) : Obj := fmore (o372 P) [(.int 275 0), (.int 0 0), (.ref 415), (.int 282 0), (.int 0 0), (.ref 422), (.int 286 0), (.int 0 0), (.ref 429), (.int 291 0), (.int 0 0), (.ref 436), (.int 325 0), (.int 0 0), (.ref 441), (.int 337 0), (.int 0 0), (.ref 448), (.int 351 0), (.int 0 0), (.ref 453), (.int 369 0), (.int 0 0), (.ref 460), (.int 393 0), (.int 0 0), (.ref 465), (.int 399 0), (.int 0 0), (.ref 472), (.int 407 0), (.int 0 0), (.ref 479), (.int 409 0), (.int 0 0), (.ref 484)]
noncomputable def o505 (P : Params) : Obj := dmore (o427 P) [(e P s210 945 (.ref 492)), (e P s211 955 (.ref 499)), (e P s212 963 (.ref 506)), (e P s213 974 (.ref 513)), (e P s214 987 (.ref 520)), (e P s215 999 (.ref 527)), (e P s216 1013 (.ref 534)), (e P s217 1022 (.ref 541)), (e P s218 1028 (.ref 546)), (e P s219 1034 (.ref 551)), (e P s220 1045 (.ref 558)), (e P s221 1051 (.ref 563))] 96
noncomputable def o506 (P : Params) : Obj := fmore (o428 P) [(.int 411 0), (.int 0 0), (.ref 491), (.int 416 0), (.int 0 0), (.ref 498), (.int 422 0), (.int 0 0), (.ref 505), (.int 425 0), (.int 0 0), (.ref 512), (.int 434 0), (.int 0 0), (.ref 519), (.int 447 0), (.int 0 0), (.ref 526), (.int 460 0), (.int 0 0), (.ref 533), (.int 482 0), (.int 0 0), (.ref 540), (.int 484 0), (.int 0 0), (.ref 545), (.int 497 0), (.int 0 0), (.ref 550), (.int 502 0), (.int 0 0), (.ref 557), (.int 524 0), (.int 0 0), (.ref 562)]
noncomputable def fl (P : Params) : List Obj := [boot_o_0 P, boot_o_1 P, boot_o_2 P, dmore (o505 P) [(e P s230 1072 (.ref 570)), (e P s231 1081 (.ref 577)), (e P s232 1087 (.ref 582))] 99, boot_o_4 P, boot_o_5 P, boot_o_6 P, boot_o_7 P, boot_o_8 P, boot_o_9 P, boot_o_10 P, tu [], fmore (o506 P) [(.int 532 0), (.int 0 0), (.ref 569), (.int 543 0), (.int 0 0), (.ref 576), (.int 549 0), (.int 0 0), (.ref 581)], k6 s0 182 1 11 185, k7 13 3 s2 164, tu [], k0, tu [(.str s22 190)], tu [], k2 s12 0, k1 s12 187 s12 1 1 15 191 192, k3 s12 0 s2 164 20, tu [(.int 128 194), (.int 132 195), (.int 133 196), (.int 137 197), (.int 138 198), (.int 139 199), (.int 140 200), (.int 141 201), (.int 142 202)], k12 9, tu [], k13 24, tu [(.int 143 212), (.int 157 213), (.int 171 214), (.int 235 215), (.int 239 216), (.int 243 217), (.int 247 218), (.int 248 219), (.int 249 220)], k12 9, tu [], k13 28, tu [(.int 223 230), (.int 2 231)], k12 2, tu [], k13 32, tu [(.type z17)], k9, ⟨(.type z5), none, (.dict ⟨[(e P s36 243 (.str s23 234)), (e P s37 245 (.str s35 244)), (e P s38 247 (.int 8 246)), (e P s39 256 (.ref 48)), (e P s40 258 (.ref 49))]⟩ 5), ⟨[]⟩⟩, tu [], k17 10 4 47, k6 s35 238 8 37 241, k7 39 36 s23 234, tu [(.str s41 248)], tu [], k0, tu [(.str s42 252), (.str s43 253)], tu [], k4 s39 s44 5 0, k1 s39 249 s44 10 2 42 254 255, ⟨(.type z21), none, (.func ⟨s39, s44, fA (stc 5 0), .stmts (fB (stc 5 0)), fS (stc 5 0), 3, [], (.ref 41), .none, .none, (.str s23 234), none, (.ref 47), .none, 0⟩), ⟨[]⟩⟩, tu [(.str s43 257)], ⟨(.type z5), none, (.dict ⟨[(e P s36 243 (.str s23 234)), (e P s38 247 (.int 8 246)), (e P s39 256 (.ref 48)), (e P s40 258 (.ref 49)), (e P s45 260 (.ref 52)), (e P s4 261 .none)]⟩ 3), ⟨[]⟩⟩, ⟨(.type z7), none, (.cls ⟨s35, [(.type z17)], [(.ref 51), (.type z17), (.type z15), (.type z11), (.type z8)], 50, s35, true, [], [(.ref 64), (.ref 76), (.ref 88)], false, none, false⟩), ⟨[(some (.ref 34)), none, (some (.str s35 236)), (some (.str s35 244)), (some (.builtin z10)), (some (.bool true))]⟩⟩, k14 259 51, k10 51, k11 51, tu [(.ref 51)], k9, ⟨(.type z5), none, (.dict ⟨[(e P s36 271 (.str s23 234)), (e P s37 273 (.str s46 272)), (e P s38 275 (.int 12 274)), (e P s40 276 (.ref 62))]⟩ 4), ⟨[]⟩⟩, tu [], k0, k6 s46 266 12 58 269, k7 60 57 s23 234, tu [], ⟨(.type z5), none, (.dict ⟨[(e P s36 271 (.str s23 234)), (e P s38 275 (.int 12 274)), (e P s40 276 (.ref 62)), (e P s4 277 .none)]⟩ 2), ⟨[]⟩⟩, k18 s46 64 63 55 264, k10 64, k11 64, tu [(.ref 51)], k9, ⟨(.type z5), none, (.dict ⟨[(e P s36 287 (.str s23 234)), (e P s37 289 (.str s47 288)), (e P s38 291 (.int 14 290)), (e P s40 292 (.ref 74))]⟩ 4), ⟨[]⟩⟩, tu [], k0, k6 s47 282 14 70 285, k7 72 69 s23 234, tu [], ⟨(.type z5), none, (.dict ⟨[(e P s36 287 (.str s23 234)), (e P s38 291 (.int 14 290)), (e P s40 292 (.ref 74)), (e P s4 293 .none)]⟩ 2), ⟨[]⟩⟩, k18 s47 76 75 67 280, k10 76, k11 76, tu [(.ref 51)], k9, ⟨(.type z5), none, (.dict ⟨[(e P s36 303 (.str s23 234)), (e P s37 305 (.str s49 304)), (e P s38 307 (.int 16 306)), (e P s40 308 (.ref 86))]⟩ 4), ⟨[]⟩⟩, tu [], k0, k6 s49 298 16 82 301, k7 84 81 s23 234, tu [], ⟨(.type z5), none, (.dict ⟨[(e P s36 303 (.str s23 234)), (e P s38 307 (.int 16 306)), (e P s40 308 (.ref 86)), (e P s4 309 .none)]⟩ 2), ⟨[]⟩⟩, k18 s49 88 87 79 296, k10 88, k11 88, tu [], k0, tu [(.str s57 329), (.str s58 330), (.str s59 331)], tu [], k2 s52 12, k1 s52 326 s52 21 3 91 332 333, k3 s52 12 s60 312 96, tu [(.int 0 349), (.int 1 350), (.int 2 351), (.int 3 352)], k12 4, tu [], k13 100, tu [(.int 128 357), (.int 128 358), (.int 255 359)], k12 3, tu [], k13 104, tu [(.int 0 363), (.int 0 364), (.int 0 365), (.int 0 366), (.int 0 367), (.int 0 368)], tu [(.int 0 372), (.int 196608 373), (.int 98304 374), (.int 65536 375), (.int 262144 376), (.int 655360 377), (.int 65536 378)], tu [], k0, tu [(.str s57 383)], tu [], k2 s72 23, k1 s72 380 s72 33 1 108 384 385, k3 s72 23 s48 335 113, tu [], k0, tu [(.str s77 390), (.str s78 391)], tu [], k2 s73 24, k1 s73 387 s73 35 1 115 392 393, k3 s73 24 s48 335 120, tu [], k0, tu [(.str s79 398), (.str s80 399), (.str s81 400), (.str s82 401)], tu [], k2 s74 25, k1 s74 395 s74 39 2 122 402 403, k3 s74 25 s48 335 127, tu [], k0, tu [(.str s80 408), (.str s83 409), (.str s82 410), (.str s84 411), (.str s85 412), (.str s86 413)], tu [], k2 s75 26, k1 s75 405 s75 45 2 129 414 415, k3 s75 26 s48 335 134, tu [], k0, tu [(.str s80 420), (.str s82 421), (.str s87 422), (.str s88 423)], tu [], k2 s76 27, k1 s76 417 s76 57 1 136 424 425, k3 s76 27 s48 335 141, tu [], k0, tu [(.str s91 430), (.str s92 431), (.str s80 432), (.str s93 433), (.str s83 434), (.str s81 435), (.str s84 436), (.str s94 437), (.str s95 438), (.str s96 439), (.str s97 440), (.str s86 441)], tu [], k2 s89 28, k1 s89 427 s89 65 4 143 442 443, k3 s89 28 s48 335 148, tu [], k0, tu [(.str s91 448), (.str s95 449), (.str s96 450), (.str s97 451), (.str s86 452)], tu [], k2 s90 29, k1 s90 445 s90 84 1 150 453 454, k3 s90 29 s48 335 155, tu [], k9, ⟨(.type z5), none, (.dict ⟨[(e P s36 463 (.str s48 335)), (e P s37 465 (.str s98 464)), (e P s38 467 (.int 89 466)), (e P s39 482 (.ref 173)), (e P s99 490 (.ref 180)), (e P s100 498 (.ref 187)), (e P s101 506 (.ref 194)), (e P s102 514 (.ref 201)), (e P s103 522 (.ref 208)), (e P s104 530 (.ref 215)), (e P s105 539 (.ref 222)), (e P s79 548 (.ref 229)), (e P s106 556 (.ref 236)), (e P s107 565 (.ref 243)), (e P s40 579 (.ref 244))]⟩ 15), ⟨[]⟩⟩, tu [], ⟨.none, none, (.fields ⟨[(.int 91 0), (.int 4 0), (.ref 172), (.int 115 0), (.int 4 0), (.ref 179), (.int 118 0), (.int 4 0), (.ref 186), (.int 121 0), (.int 4 0), (.ref 193), (.int 124 0), (.int 4 0), (.ref 200), (.int 127 0), (.int 4 0), (.ref 207), (.int 130 0), (.int 4 0), (.ref 214), (.int 133 0), (.int 4 0), (.ref 221), (.int 137 0), (.int 4 0), (.ref 228), (.int 141 0), (.int 4 0), (.ref 235), (.int 144 0), (.int 4 0), (.ref 242)]⟩), ⟨[]⟩⟩, k6 s98 458 89 160 461, k7 162 159 s48 335, tu [], tu [], o175 P, tu [], k0, tu [(.str s42 471), (.str s108 472), (.str s109 473), (.str s78 474), (.str s110 475), (.str s80 476), (.str s91 477), (.str s92 478), (.str s93 479)], tu [], k4 s39 s111 30 0, k1 s39 468 s111 91 9 167 480 481, o182 P, tu [], k0, tu [(.str s42 486), (.str s82 487)], tu [], k4 s99 s112 30 1, k1 s99 483 s112 115 2 174 488 489, k5 s99 s112 30 1 s48 335 179, tu [], k0, tu [(.str s42 494), (.str s82 495)], tu [], k4 s100 s113 30 2, k1 s100 491 s113 118 2 181 496 497, k5 s100 s113 30 2 s48 335 186, tu [], k0, tu [(.str s42 502), (.str s82 503)], tu [], k4 s101 s114 30 3, k1 s101 499 s114 121 2 188 504 505, k5 s101 s114 30 3 s48 335 193, tu [], k0, tu [(.str s42 510), (.str s82 511)], tu [], k4 s102 s115 30 4, k1 s102 507 s115 124 2 195 512 513, k5 s102 s115 30 4 s48 335 200, tu [], k0, tu [(.str s42 518), (.str s82 519)], tu [], k4 s103 s116 30 5, k1 s103 515 s116 127 2 202 520 521, k5 s103 s116 30 5 s48 335 207, tu [], k0, tu [(.str s42 526), (.str s82 527)], tu [], k4 s104 s117 30 6, k1 s104 523 s117 130 2 209 528 529, k5 s104 s117 30 6 s48 335 214, tu [], k0, tu [(.str s42 534), (.str s82 535), (.str s84 536)], tu [], k4 s105 s118 30 7, k1 s105 531 s118 133 2 216 537 538, k5 s105 s118 30 7 s48 335 221, tu [], k0, tu [(.str s42 543), (.str s82 544), (.str s84 545)], tu [], k4 s79 s119 30 8, k1 s79 540 s119 137 2 223 546 547, k5 s79 s119 30 8 s48 335 228, tu [], k0, tu [(.str s42 552), (.str s108 553)], tu [], k4 s106 s120 30 9, k1 s106 549 s120 141 2 230 554 555, k5 s106 s120 30 9 s48 335 235, tu [], k0, tu [(.str s42 560), (.str s108 561), (.str s57 562)], tu [], k4 s107 s121 30 10, k1 s107 557 s121 144 3 237 563 564, k5 s107 s121 30 10 s48 335 242, tu [(.str s93 566), (.str s80 567), (.str s122 568), (.str s123 569), (.str s124 570), (.str s125 571), (.str s92 572), (.str s109 573), (.str s108 574), (.str s110 575), (.str s91 576), (.str s78 577), (.str s126 578)], ⟨(.type z5), none, (.dict ⟨[(e P s36 463 (.str s48 335)), (e P s38 467 (.int 89 466)), (e P s39 482 (.ref 173)), (e P s99 490 (.ref 180)), (e P s100 498 (.ref 187)), (e P s101 506 (.ref 194)), (e P s102 514 (.ref 201)), (e P s103 522 (.ref 208)), (e P s104 530 (.ref 215)), (e P s105 539 (.ref 222)), (e P s79 548 (.ref 229)), (e P s106 556 (.ref 236)), (e P s107 565 (.ref 243)), (e P s40 579 (.ref 244)), (e P s127 581 (.ref 247)), (e P s45 583 (.ref 248)), (e P s4 584 .none)]⟩ 4), ⟨[]⟩⟩, k15 s98 246 245 456, k16 580 246, k14 582 246, k10 246, k11 246, tu [], k0, tu [(.str s108 590), (.str s134 591), (.str s135 592)], tu [], k2 s129 31, k1 s129 587 s129 146 1 251 593 594, k3 s129 31 s48 335 256, tu [], tu [], o271 P, tu [], k0, tu [(.str s108 599), (.str s136 600), (.str s110 601), (.str s91 602), (.str s92 603), (.str s93 604), (.str s80 605), (.str s84 606)], tu [], k2 s130 32, k1 s130 596 s130 153 6 261 607 608, o278 P, tu [(.int 0 612), (.int 1 613), (.int 2 614)], k12 3, tu [], k13 270, tu [], k9, ⟨(.type z5), none, (.dict ⟨[(e P s36 625 (.str s128 610)), (e P s37 627 (.str s137 626)), (e P s38 629 (.int 164 628)), (e P s39 637 (.ref 285)), (e P s108 648 (.ref 292)), (e P s138 658 (.ref 299)), (e P s139 668 (.ref 306)), (e P s40 671 (.ref 307))]⟩ 8), ⟨[]⟩⟩, tu [], ⟨.none, none, (.fields ⟨[(.int 166 0), (.int 4 0), (.ref 284), (.int 172 0), (.int 4 0), (.ref 291), (.int 182 0), (.int 4 0), (.ref 298), (.int 189 0), (.int 4 0), (.ref 305)]⟩), ⟨[]⟩⟩, k6 s137 620 164 275 623, k7 277 274 s128 610, tu [], k0, tu [(.str s42 633), (.str s140 634)], tu [], k4 s39 s141 35 0, k1 s39 630 s141 166 2 279 635 636, k5 s39 s141 35 0 s128 610 284, tu [], k0, tu [(.str s42 641), (.str s142 642), (.str s143 643), (.str s135 644), (.str s81 645)], tu [], k4 s108 s144 35 1, k1 s108 638 s144 172 2 286 646 647, k5 s108 s144 35 1 s128 610 291, tu [], k0, tu [(.str s42 652), (.str s142 653), (.str s135 654), (.str s145 655)], tu [], k4 s138 s146 35 2, k1 s138 649 s146 182 2 293 656 657, k5 s138 s146 35 2 s128 610 298, tu [], k0, tu [(.str s42 662), (.str s83 663), (.str s143 664), (.str s135 665)], tu [], k4 s139 s147 35 3, k1 s139 659 s147 189 2 300 666 667, k5 s139 s147 35 3 s128 610 305, tu [(.str s148 669), (.str s140 670)], ⟨(.type z5), none, (.dict ⟨[(e P s36 625 (.str s128 610)), (e P s38 629 (.int 164 628)), (e P s39 637 (.ref 285)), (e P s108 648 (.ref 292)), (e P s138 658 (.ref 299)), (e P s139 668 (.ref 306)), (e P s40 671 (.ref 307)), (e P s127 673 (.ref 310)), (e P s45 675 (.ref 311)), (e P s4 676 .none)]⟩ 4), ⟨[]⟩⟩, k15 s137 309 308 618, k16 672 309, k14 674 309, k10 309, k11 309, tu [], k9, ⟨(.type z5), none, (.dict ⟨[(e P s36 686 (.str s128 610)), (e P s37 688 (.str s149 687)), (e P s38 690 (.int 196 689)), (e P s39 697 (.ref 327)), (e P s150 704 (.ref 334)), (e P s151 711 (.ref 341)), (e P s152 722 (.ref 348)), (e P s40 733 (.ref 349))]⟩ 8), ⟨[]⟩⟩, tu [], ⟨.none, none, (.fields ⟨[(.int 198 0), (.int 4 0), (.ref 326), (.int 210 0), (.int 4 0), (.ref 333), (.int 214 0), (.int 4 0), (.ref 340), (.int 219 0), (.int 4 0), (.ref 347)]⟩), ⟨[]⟩⟩, k6 s149 681 196 317 684, k7 319 316 s128 610, tu [], k0, tu [(.str s42 694)], tu [], k4 s39 s153 36 0, k1 s39 691 s153 198 1 321 695 696, k5 s39 s153 36 0 s128 610 326, tu [], k0, tu [(.str s42 701)], tu [], k4 s150 s154 36 1, k1 s150 698 s154 210 1 328 702 703, k5 s150 s154 36 1 s128 610 333, tu [], k0, tu [(.str s42 708)], tu [], k4 s151 s155 36 2, k1 s151 705 s155 214 1 335 709 710, k5 s151 s155 36 2 s128 610 340, tu [], k0, tu [(.str s42 715), (.str s156 716), (.str s157 717), (.str s158 718), (.str s159 719)], tu [], k4 s152 s160 36 3, k1 s152 712 s160 219 3 342 720 721, k5 s152 s160 36 3 s128 610 347, tu [(.str s161 723), (.str s162 724), (.str s158 725), (.str s136 726), (.str s163 727), (.str s159 728), (.str s164 729), (.str s165 730), (.str s166 731), (.str s167 732)], ⟨(.type z5), none, (.dict ⟨[(e P s36 686 (.str s128 610)), (e P s38 690 (.int 196 689)), (e P s39 697 (.ref 327)), (e P s150 704 (.ref 334)), (e P s151 711 (.ref 341)), (e P s152 722 (.ref 348)), (e P s40 733 (.ref 349)), (e P s127 735 (.ref 352)), (e P s45 737 (.ref 353)), (e P s4 738 .none)]⟩ 4), ⟨[]⟩⟩, k15 s149 351 350 679, k16 734 351, k14 736 351, k10 351, k11 351, tu [], k9, ⟨(.type z5), none, (.dict ⟨[(e P s36 748 (.str s128 610)), (e P s37 750 (.str s168 749)), (e P s38 752 (.int 225 751)), (e P s39 761 (.ref 369)), (e P s40 769 (.ref 370))]⟩ 5), ⟨[]⟩⟩, tu [], k17 227 4 368, k6 s168 743 225 359 746, k7 361 358 s128 610, tu [], k0, tu [(.str s42 756), (.str s174 757), (.str s175 758)], tu [], k4 s39 s176 37 0, k1 s39 753 s176 227 3 363 759 760, k5 s39 s176 37 0 s128 610 368, tu [(.str s175 762), (.str s161 763), (.str s177 764), (.str s178 765), (.str s179 766), (.str s174 767), (.str s180 768)], ⟨(.type z5), none, (.dict ⟨[(e P s36 748 (.str s128 610)), (e P s38 752 (.int 225 751)), (e P s39 761 (.ref 369)), (e P s40 769 (.ref 370)), (e P s127 771 (.ref 373)), (e P s45 773 (.ref 374)), (e P s4 774 .none)]⟩ 4), ⟨[]⟩⟩, k15 s168 372 371 741, k16 770 372, k14 772 372, k10 372, k11 372, tu [], k0, tu [(.str s181 780), (.str s135 781)], tu [], k2 s169 38, k1 s169 777 s169 235 1 377 782 783, k3 s169 38 s128 610 382, tu [], k0, k2 s170 39, k8 s170 785 240 3 384 788, k3 s170 39 s128 610 387, tu [], k0, tu [(.str s182 794)], tu [], k2 s171 40, k1 s171 791 s171 256 1 389 795 796, k3 s171 40 s128 610 394, tu [], k0, tu [(.str s181 801), (.str s183 802), (.str s184 803), (.str s185 804)], tu [], k2 s172 41, k1 s172 798 s172 258 4 396 805 806, k3 s172 41 s128 610 401, tu [], k0, tu [(.str s186 811), (.str s82 812), (.str s177 813), (.str s187 814), (.str s162 815)], tu [], k2 s173 42, k1 s173 808 s173 268 4 403 816 817, k3 s173 42 s128 610 408, tu [], k0, tu [(.str s181 822), (.str s186 823), (.str s187 824), (.str s101 825), (.str s100 826)], tu [], k2 s189 43, k1 s189 819 s189 275 3 410 827 828, k3 s189 43 s128 610 415, tu [], k0, tu [(.str s186 833), (.str s108 834), (.str s201 835)], tu [], k2 s190 44, k1 s190 830 s190 282 3 417 836 837, k3 s190 44 s128 610 422, tu [], k0, tu [(.str s181 842), (.str s182 843), (.str s201 844), (.str s177 845), (.str s108 846), (.str s84 847)], tu [], k2 s191 45, k1 s191 839 s191 286 4 424 848 849, k3 s191 45 s128 610 429, tu [], k0, tu [(.str s181 854), (.str s186 855), (.str s182 856), (.str s201 857), (.str s177 858), (.str s78 859), (.str s83 860)], tu [], k2 s192 46, k1 s192 851 s192 291 5 431 861 862, k3 s192 46 s128 610 436, tu [], k0, k2 s193 47, k8 s193 864 325 4 438 867, k3 s193 47 s128 610 441, tu [], k0, tu [(.str s181 873), (.str s201 874), (.str s177 875), (.str s202 876), (.str s182 877), (.str s108 878), (.str s84 879)], tu [], k2 s194 48, k1 s194 870 s194 337 3 443 880 881, k3 s194 48 s128 610 448, tu [], k0, k2 s195 49, k8 s195 883 351 4 450 886, k3 s195 49 s128 610 453, tu [], k0, tu [(.str s140 892), (.str s177 893), (.str s181 894), (.str s174 895), (.str s83 896), (.str s203 897), (.str s204 898), (.str s182 899), (.str s205 900), (.str s206 901), (.str s186 902)], tu [], k2 s196 50, k1 s196 889 s196 369 2 455 903 904, k3 s196 50 s128 610 460, tu [], k0, k2 s197 52, k8 s197 908 393 2 462 911, k3 s197 52 s188 906 465, tu [], k0, tu [(.str s207 917), (.str s83 918), (.str s208 919), (.str s209 920)], tu [], k2 s198 53, k1 s198 914 s198 399 2 467 921 922, k3 s198 53 s188 906 472, tu [], k0, tu [(.str s183 927)], tu [], k2 s199 54, k1 s199 924 s199 407 1 474 928 929, k3 s199 54 s188 906 479, tu [], k0, k2 s200 55, k8 s200 931 409 2 481 934, k3 s200 55 s188 906 484, tu [], k0, tu [(.str s207 940), (.str s222 941), (.str s223 942)], tu [], k2 s210 56, k1 s210 937 s210 411 1 486 943 944, k3 s210 56 s188 906 491, tu [], k0, tu [(.str s184 949), (.str s78 950), (.str s224 951), (.str s142 952)], tu [], k2 s211 57, k1 s211 946 s211 416 3 493 953 954, k3 s211 57 s188 906 498, tu [], k0, tu [(.str s225 959), (.str s140 960)], tu [], k2 s212 58, k1 s212 956 s212 422 2 500 961 962, k3 s212 58 s188 906 505, tu [], k0, tu [(.str s207 967), (.str s225 968), (.str s222 969), (.str s226 970), (.str s227 971)], tu [], k2 s213 59, k1 s213 964 s213 425 2 507 972 973, k3 s213 59 s188 906 512, tu [], k0, tu [(.str s207 978), (.str s225 979), (.str s82 980), (.str s222 981), (.str s187 982), (.str s142 983), (.str s100 984)], tu [], k2 s214 60, k1 s214 975 s214 434 2 514 985 986, k3 s214 60 s188 906 519, tu [], k0, tu [(.str s207 991), (.str s225 992), (.str s101 993), (.str s100 994), (.str s187 995), (.str s77 996)], tu [], k2 s215 61, k1 s215 988 s215 447 2 521 997 998, k3 s215 61 s188 906 526, tu [], k0, tu [(.str s207 1003), (.str s225 1004), (.str s228 1005), (.str s222 1006), (.str s224 1007), (.str s229 1008), (.str s184 1009), (.str s78 1010)], tu [], k2 s216 62, k1 s216 1000 s216 460 2 528 1011 1012, k3 s216 62 s188 906 533, tu [], k0, tu [(.str s183 1017), (.str s142 1018), (.str s86 1019)], tu [], k2 s217 63, k1 s217 1014 s217 482 3 535 1020 1021, k3 s217 63 s188 906 540, tu [], k0, k2 s218 64, k8 s218 1023 484 4 542 1026, k3 s218 64 s188 906 545, tu [], k0, k2 s219 65, k8 s219 1029 497 2 547 1032, k3 s219 65 s188 906 550, tu [], k0, tu [(.str s207 1038), (.str s225 1039), (.str s202 1040), (.str s177 1041), (.str s222 1042)], tu [], k2 s220 66, k1 s220 1035 s220 502 4 552 1043 1044, k3 s220 66 s188 906 557, tu [], k0, k2 s221 67, k8 s221 1046 524 3 559 1049, k3 s221 67 s188 906 562, tu [], k0, tu [(.str s233 1055), (.str s178 1056), (.str s22 1057), (.str s234 1058), (.str s235 1059), (.str s236 1060), (.str s163 1061), (.str s237 1062), (.str s135 1063), (.str s204 1064), (.str s225 1065), (.str s205 1066), (.str s206 1067), (.str s238 1068), (.str s239 1069)], tu [], k2 s230 68, k1 s230 1052 s230 532 8 564 1070 1071, k3 s230 68 s188 906 569, tu [], k0, tu [(.str s140 1076), (.str s177 1077), (.str s203 1078)], tu [], k2 s231 69, k1 s231 1073 s231 543 2 571 1079 1080, k3 s231 69 s188 906 576, tu [], k0, k2 s232 70, k8 s232 1082 549 1 578 1085, k3 s232 70 s188 906 581]
noncomputable def sp (l : List Obj) : List Obj × List Obj := l.rec ([], []) fun a _ p => (a :: p.2, p.1)
noncomputable def bt (n : Nat) : List Obj -> BT := n.rec (fun _ => .nil) fun _ f l => l.casesOn .nil fun o r => .node o (f (sp r).1) (f (sp r).2)
noncomputable def ls (P : Params) (n : Nat) (r : List (Nat × Obj)) : List Obj := r.foldl (fun l p => l.set p.1 p.2) ((fl P).take n)
noncomputable def Sk (n t : Nat) (r : Params -> List (Nat × Obj)) (w : World) (os : OsState) : SharedT := ⟨bt 10 (ls w.params n (r w.params)), n, ({} : Life), ⟨[]⟩, ⟨0, 0, 0, 0⟩, t, os⟩
noncomputable abbrev S_a := Sk 15 187 fun P => [(3, boot_o_3 P), (12, o1 P)]
noncomputable abbrev S_b := Sk 15 187 fun P => [(3, boot_o_3 P), (12, o1 P)]
noncomputable abbrev S_0 := Sk 26 212 fun P => [(3, o4 P), (12, o5 P)]
noncomputable abbrev S_1 := Sk 34 236 fun P => [(3, o17 P), (12, o5 P)]
noncomputable abbrev S_2 := Sk 55 264 fun P => [(3, o26 P), (12, o27 P), (51, o45 P)]
noncomputable abbrev S_3 := Sk 67 280 fun P => [(3, o49 P), (12, o50 P), (51, o51 P)]
noncomputable abbrev S_4 := Sk 79 296 fun P => [(3, o64 P), (12, o65 P), (51, o66 P)]
noncomputable abbrev S_5 := Sk 98 349 fun P => [(3, o79 P), (12, o80 P)]
noncomputable abbrev S_6 := Sk 143 427 fun P => [(3, o101 P), (12, o102 P)]
noncomputable abbrev S_7 := Sk 157 456 fun P => [(3, o148 P), (12, o149 P)]
noncomputable abbrev S_8 := Sk 251 587 fun P => [(3, o164 P), (12, o165 P)]
noncomputable abbrev S_9 := Sk 272 618 fun P => [(3, o260 P), (12, o261 P)]
noncomputable abbrev S_10 := Sk 314 679 fun P => [(3, o283 P), (12, o284 P)]
noncomputable abbrev S_11 := Sk 356 741 fun P => [(3, o327 P), (12, o328 P)]
noncomputable abbrev S_12 := Sk 410 819 fun P => [(3, o371 P), (12, o372 P)]
noncomputable abbrev S_13 := Sk 486 937 fun P => [(3, o427 P), (12, o428 P)]
noncomputable abbrev S_14 := Sk 564 1052 fun P => [(3, o505 P), (12, o506 P)]
noncomputable abbrev S_15 := Sk 583 1088 fun P => []
noncomputable abbrev S_f := Sk 583 1088 fun P => []
noncomputable def H1 (P : Params) : Heap := ⟨⟨fl P⟩, {}⟩
noncomputable def Ha (P : Params) : Heap := ⟨⟨ls P 15 [(3, boot_o_3 P), (12, o1 P)]⟩, {}⟩
noncomputable def thr' (l : List Stmt) (p : Pos) : Thread := ⟨(PySem.W.Fast.tw12563942051412417395 l envE).wrap doneF deadEnd id id, cE, p, [topFrame qP]⟩
theorem p_0f (w : World) : (fun os => PySem.W.Fast.tw10110043849684766642 PySem.W.Fast.tw14364793385576792824 pw (w.withFollow row false) 11 ann 1 221 (S_b (w.withFollow row false) os) (thr' (sts 0 2) ⟨0, 0, 0, 0⟩)) = fun os => some (Flow.next, S_0 (w.withFollow row false) os, cE, ⟨4, 76, 4, 79⟩) := by kernel_rfl
theorem p_0t (w : World) : (fun os => PySem.W.Fast.tw10110043849684766642 PySem.W.Fast.tw14364793385576792824 pw (w.withFollow row true) 11 ann 1 221 (S_b (w.withFollow row true) os) (thr' (sts 0 2) ⟨0, 0, 0, 0⟩)) = fun os => some (Flow.next, S_0 (w.withFollow row true) os, cE, ⟨4, 76, 4, 79⟩) := by kernel_rfl
theorem p_1f (w : World) : (fun os => PySem.W.Fast.tw10110043849684766642 PySem.W.Fast.tw14364793385576792824 pw (w.withFollow row false) 11 ann 1 266 (S_0 (w.withFollow row false) os) (thr' (sts 2 3) ⟨4, 76, 4, 79⟩)) = fun os => some (Flow.next, S_1 (w.withFollow row false) os, cE, ⟨7, 0, 7, 8⟩) := by kernel_rfl
theorem p_1t (w : World) : (fun os => PySem.W.Fast.tw10110043849684766642 PySem.W.Fast.tw14364793385576792824 pw (w.withFollow row true) 11 ann 1 266 (S_0 (w.withFollow row true) os) (thr' (sts 2 3) ⟨4, 76, 4, 79⟩)) = fun os => some (Flow.next, S_1 (w.withFollow row true) os, cE, ⟨7, 0, 7, 8⟩) := by kernel_rfl
theorem p_2 (w : World) : (fun os => PySem.W.Fast.tw10110043849684766642 PySem.W.Fast.tw14364793385576792824 pw w 11 ann 1 221 (S_1 w os) (thr' (sts 5 1) ⟨7, 0, 7, 8⟩)) = fun os => some (Flow.next, S_2 w os, cE, ⟨8, 0, 11, 28⟩) := by kernel_rfl
theorem p_3 (w : World) : (fun os => PySem.W.Fast.tw10110043849684766642 PySem.W.Fast.tw14364793385576792824 pw w 11 ann 1 214 (S_2 w os) (thr' (sts 6 1) ⟨8, 0, 11, 28⟩)) = fun os => some (Flow.next, S_3 w os, cE, ⟨12, 0, 13, 8⟩) := by kernel_rfl
theorem p_4 (w : World) : (fun os => PySem.W.Fast.tw10110043849684766642 PySem.W.Fast.tw14364793385576792824 pw w 11 ann 1 214 (S_3 w os) (thr' (sts 7 1) ⟨12, 0, 13, 8⟩)) = fun os => some (Flow.next, S_4 w os, cE, ⟨14, 0, 15, 8⟩) := by kernel_rfl
theorem p_5 (w : World) : (fun os => PySem.W.Fast.tw10110043849684766642 PySem.W.Fast.tw14364793385576792824 pw w 11 ann 1 353 (S_4 w os) (thr' (sts 8 10) ⟨14, 0, 15, 8⟩)) = fun os => some (Flow.next, S_5 w os, cE, ⟨27, 0, 27, 9⟩) := by kernel_rfl
theorem p_6f (w : World) : (fun os => PySem.W.Fast.tw10110043849684766642 PySem.W.Fast.tw14364793385576792824 pw (w.withFollow row false) 11 ann 1 384 (S_5 (w.withFollow row false) os) (thr' (sts 18 10) ⟨27, 0, 27, 9⟩)) = fun os => some (Flow.next, S_6 (w.withFollow row false) os, cE, ⟨57, 0, 64, 65⟩) := by kernel_rfl
theorem p_6t (w : World) : (fun os => PySem.W.Fast.tw10110043849684766642 PySem.W.Fast.tw14364793385576792824 pw (w.withFollow row true) 11 ann 1 384 (S_5 (w.withFollow row true) os) (thr' (sts 18 10) ⟨27, 0, 27, 9⟩)) = fun os => some (Flow.next, S_6 (w.withFollow row true) os, cE, ⟨57, 0, 64, 65⟩) := by kernel_rfl
theorem p_7 (w : World) : (fun os => PySem.W.Fast.tw10110043849684766642 PySem.W.Fast.tw14364793385576792824 pw w 11 ann 1 74 (S_6 w os) (thr' (sts 28 2) ⟨57, 0, 64, 65⟩)) = fun os => some (Flow.next, S_7 w os, cE, ⟨84, 0, 88, 50⟩) := by kernel_rfl
theorem p_8 (w : World) : (fun os => PySem.W.Fast.tw10110043849684766642 PySem.W.Fast.tw14364793385576792824 pw w 11 ann 1 574 (S_7 w os) (thr' (sts 30 1) ⟨84, 0, 88, 50⟩)) = fun os => some (Flow.next, S_8 w os, cE, ⟨89, 0, 145, 16⟩) := by kernel_rfl
theorem p_9f (w : World) : (fun os => PySem.W.Fast.tw10110043849684766642 PySem.W.Fast.tw14364793385576792824 pw (w.withFollow row false) 11 ann 1 169 (S_8 (w.withFollow row false) os) (thr' (sts 31 4) ⟨89, 0, 145, 16⟩)) = fun os => some (Flow.next, S_9 (w.withFollow row false) os, cE, ⟨163, 20, 163, 31⟩) := by kernel_rfl
theorem p_9t (w : World) : (fun os => PySem.W.Fast.tw10110043849684766642 PySem.W.Fast.tw14364793385576792824 pw (w.withFollow row true) 11 ann 1 169 (S_8 (w.withFollow row true) os) (thr' (sts 31 4) ⟨89, 0, 145, 16⟩)) = fun os => some (Flow.next, S_9 (w.withFollow row true) os, cE, ⟨163, 20, 163, 31⟩) := by kernel_rfl
theorem p_10 (w : World) : (fun os => PySem.W.Fast.tw10110043849684766642 PySem.W.Fast.tw14364793385576792824 pw w 11 ann 1 327 (S_9 w os) (thr' (sts 35 1) ⟨163, 20, 163, 31⟩)) = fun os => some (Flow.next, S_10 w os, cE, ⟨164, 0, 195, 20⟩) := by kernel_rfl
theorem p_11 (w : World) : (fun os => PySem.W.Fast.tw10110043849684766642 PySem.W.Fast.tw14364793385576792824 pw w 11 ann 1 328 (S_10 w os) (thr' (sts 36 1) ⟨164, 0, 195, 20⟩)) = fun os => some (Flow.next, S_11 w os, cE, ⟨196, 0, 224, 18⟩) := by kernel_rfl
theorem p_12 (w : World) : (fun os => PySem.W.Fast.tw10110043849684766642 PySem.W.Fast.tw14364793385576792824 pw w 11 ann 1 380 (S_11 w os) (thr' (sts 37 6) ⟨196, 0, 224, 18⟩)) = fun os => some (Flow.next, S_12 w os, cE, ⟨268, 0, 274, 37⟩) := by kernel_rfl
theorem p_13 (w : World) : (fun os => PySem.W.Fast.tw10110043849684766642 PySem.W.Fast.tw14364793385576792824 pw w 11 ann 1 382 (S_12 w os) (thr' (sts 43 13) ⟨268, 0, 274, 37⟩)) = fun os => some (Flow.next, S_13 w os, cE, ⟨409, 0, 410, 77⟩) := by kernel_rfl
theorem p_14 (w : World) : (fun os => PySem.W.Fast.tw10110043849684766642 PySem.W.Fast.tw14364793385576792824 pw w 11 ann 1 374 (S_13 w os) (thr' (sts 56 12) ⟨409, 0, 410, 77⟩)) = fun os => some (Flow.next, S_14 w os, cE, ⟨524, 0, 531, 15⟩) := by kernel_rfl
theorem p_15 (w : World) : (fun os => PySem.W.Fast.tw10110043849684766642 PySem.W.Fast.tw14364793385576792824 pw w 11 ann 1 101 (S_14 w os) (thr' (sts 68 3) ⟨524, 0, 531, 15⟩)) = fun os => some (Flow.next, S_15 w os, cE, ⟨549, 0, 570, 100⟩) := by kernel_rfl
noncomputable def Sa (w : World) (os : OsState) : Shared := ⟨Ha w.params, ⟨[]⟩, ⟨0, 0, 0, 0⟩, 187, os⟩
noncomputable def Sz (w : World) (os : OsState) : Shared := ⟨H1 w.params, ⟨[]⟩, ⟨0, 0, 0, 0⟩, 1088, os⟩
noncomputable def S0 (w : World) (os : OsState) : Shared := ⟨boot_heap w.params, ⟨[]⟩, boot_drawn, boot_toks, os⟩
theorem lift {l : List Stmt} {p p2 : Pos} {n : Nat} {w : World} {S S' : OsState -> SharedT} (h : (fun os => PySem.W.Fast.tw10110043849684766642 PySem.W.Fast.tw14364793385576792824 pw w 11 ann 1 n (S os) (thr' l p)) = fun os => some (Flow.next, S' os, cE, p2)) (os : OsState) :
  segRun treeTable pw w 11 ann 1 n (S os).abs (piecesOf l envE cE p [topFrame qP]) = some (Flow.next, (S' os).abs, cE, p2) := by
 have h2 := congrFun h os
 dsimp only [thr'] at h2
 rw [<- PySem.W.Fast.te10110043849684766642, <- PySem.W.Fast.te14364793385576792824, <- PySem.W.Fast.te12563942051412417395] at h2
 exact segRun_of h2
theorem pre' (w : World) : (fun os => PySem.W.Fast.tw15667345088766844465 PySem.W.Fast.tw14364793385576792824 pw w 11 ann 12 (S0 w os) (topStub pw)) = fun os => some (Sa w os, (⟨PySem.W.Fast.tw11892475500146522536 PySem.W.Fast.tw14364793385576792824 cE, cE, qP, [topFrame qP]⟩ : Thread)) := by kernel_rfl
theorem pre (w : World) (os : OsState) : topGo treeTable pw w 11 ann 12 (S0 w os) (topStub pw) = some (Sa w os, (⟨denote treeTable cE, cE, qP, [topFrame qP]⟩ : Thread)) := by
 have h2 := congrFun (pre' w) os
 try dsimp only at h2
 rw [<- PySem.W.Fast.te15667345088766844465, <- PySem.W.Fast.te14364793385576792824, <- PySem.W.Fast.te11892475500146522536] at h2
 exact h2
theorem block' (w : World) : (fun os => PySem.W.Fast.tw14374325043358763698 PySem.W.Fast.tw14364793385576792824 pw w 11 ann 1 1 (Sa w os) (⟨(PySem.W.Fast.tw1066825118222455980 bodyE envE).wrap (fun _ => doneF .next) deadEnd id id, cE, qP, [topFrame qP]⟩ : Thread)) = fun os => some (Flow.next, (S_b w os).abs, cE, qP) := by kernel_rfl
theorem block (w : World) (os : OsState) : segRun treeTable pw w 11 ann 1 1 (Sa w os) (blockOf bodyE envE cE qP [topFrame qP]) = some (Flow.next, (S_b w os).abs, cE, qP) := by
 have h2 := congrFun (block' w) os
 try dsimp only at h2
 rw [<- PySem.W.Fast.te14374325043358763698, <- PySem.W.Fast.te14364793385576792824, <- PySem.W.Fast.te1066825118222455980] at h2
 exact h2
theorem fin' (w : World) : (fun os => PySem.W.Fast.tw14082659384304107361 PySem.W.Fast.tw14364793385576792824 pw w 11 ann 2 (S_15 w os).abs (⟨doneF .next, cE, ⟨549, 0, 570, 100⟩, [topFrame qP]⟩ : Thread)) = fun os => some (Sz w os) := by kernel_rfl
theorem fin (w : World) (os : OsState) : topRun treeTable pw w 11 ann 2 (S_15 w os).abs (⟨doneF .next, cE, ⟨549, 0, 570, 100⟩, [topFrame qP]⟩ : Thread) = some (Sz w os) := by
 have h2 := congrFun (fin' w) os
 try dsimp only at h2
 rw [<- PySem.W.Fast.te14082659384304107361, <- PySem.W.Fast.te14364793385576792824] at h2
 exact h2
theorem r_15 (w : World) (os : OsState) : topRun treeTable pw w 11 ann (101 + 2) (S_14 w os).abs (restOf (sts 68 3 ++ []) envE cE ⟨524, 0, 531, 15⟩ [topFrame qP]) = some (Sz w os) := piece_app (lift (p_15 w) os) (piece_nil (fin w os))
theorem r_14 (w : World) (os : OsState) : topRun treeTable pw w 11 ann (374 + (101 + 2)) (S_13 w os).abs (restOf (sts 56 12 ++ (sts 68 3 ++ [])) envE cE ⟨409, 0, 410, 77⟩ [topFrame qP]) = some (Sz w os) := piece_app (lift (p_14 w) os) (r_15 w os)
theorem r_13 (w : World) (os : OsState) : topRun treeTable pw w 11 ann (382 + (374 + (101 + 2))) (S_12 w os).abs (restOf (sts 43 13 ++ (sts 56 12 ++ (sts 68 3 ++ []))) envE cE ⟨268, 0, 274, 37⟩ [topFrame qP]) = some (Sz w os) := piece_app (lift (p_13 w) os) (r_14 w os)
theorem r_12 (w : World) (os : OsState) : topRun treeTable pw w 11 ann (380 + (382 + (374 + (101 + 2)))) (S_11 w os).abs (restOf (sts 37 6 ++ (sts 43 13 ++ (sts 56 12 ++ (sts 68 3 ++ [])))) envE cE ⟨196, 0, 224, 18⟩ [topFrame qP]) = some (Sz w os) := piece_app (lift (p_12 w) os) (r_13 w os)
theorem r_11 (w : World) (os : OsState) : topRun treeTable pw w 11 ann (328 + (380 + (382 + (374 + (101 + 2))))) (S_10 w os).abs (restOf (sts 36 1 ++ (sts 37 6 ++ (sts 43 13 ++ (sts 56 12 ++ (sts 68 3 ++ []))))) envE cE ⟨164, 0, 195, 20⟩ [topFrame qP]) = some (Sz w os) := piece_app (lift (p_11 w) os) (r_12 w os)
theorem r_10 (w : World) (os : OsState) : topRun treeTable pw w 11 ann (327 + (328 + (380 + (382 + (374 + (101 + 2)))))) (S_9 w os).abs (restOf (sts 35 1 ++ (sts 36 1 ++ (sts 37 6 ++ (sts 43 13 ++ (sts 56 12 ++ (sts 68 3 ++ [])))))) envE cE ⟨163, 20, 163, 31⟩ [topFrame qP]) = some (Sz w os) := piece_app (lift (p_10 w) os) (r_11 w os)
theorem p_9 (w : World) : (fun os => PySem.W.Fast.tw10110043849684766642 PySem.W.Fast.tw14364793385576792824 pw w 11 ann 1 169 (S_8 w os) (thr' (sts 31 4) ⟨89, 0, 145, 16⟩)) = fun os => some (Flow.next, S_9 w os, cE, ⟨163, 20, 163, 31⟩) := byRow2 row (P := fun w => (fun os => PySem.W.Fast.tw10110043849684766642 PySem.W.Fast.tw14364793385576792824 pw w 11 ann 1 169 (S_8 w os) (thr' (sts 31 4) ⟨89, 0, 145, 16⟩)) = fun os => some (Flow.next, S_9 w os, cE, ⟨163, 20, 163, 31⟩)) p_9f p_9t w
theorem r_9 (w : World) (os : OsState) : topRun treeTable pw w 11 ann (169 + (327 + (328 + (380 + (382 + (374 + (101 + 2))))))) (S_8 w os).abs (restOf (sts 31 4 ++ (sts 35 1 ++ (sts 36 1 ++ (sts 37 6 ++ (sts 43 13 ++ (sts 56 12 ++ (sts 68 3 ++ []))))))) envE cE ⟨89, 0, 145, 16⟩ [topFrame qP]) = some (Sz w os) := piece_app (lift (p_9 w) os) (r_10 w os)
theorem r_8 (w : World) (os : OsState) : topRun treeTable pw w 11 ann (574 + (169 + (327 + (328 + (380 + (382 + (374 + (101 + 2)))))))) (S_7 w os).abs (restOf (sts 30 1 ++ (sts 31 4 ++ (sts 35 1 ++ (sts 36 1 ++ (sts 37 6 ++ (sts 43 13 ++ (sts 56 12 ++ (sts 68 3 ++ [])))))))) envE cE ⟨84, 0, 88, 50⟩ [topFrame qP]) = some (Sz w os) := piece_app (lift (p_8 w) os) (r_9 w os)
theorem r_7 (w : World) (os : OsState) : topRun treeTable pw w 11 ann (74 + (574 + (169 + (327 + (328 + (380 + (382 + (374 + (101 + 2))))))))) (S_6 w os).abs (restOf (sts 28 2 ++ (sts 30 1 ++ (sts 31 4 ++ (sts 35 1 ++ (sts 36 1 ++ (sts 37 6 ++ (sts 43 13 ++ (sts 56 12 ++ (sts 68 3 ++ []))))))))) envE cE ⟨57, 0, 64, 65⟩ [topFrame qP]) = some (Sz w os) := piece_app (lift (p_7 w) os) (r_8 w os)
theorem p_6 (w : World) : (fun os => PySem.W.Fast.tw10110043849684766642 PySem.W.Fast.tw14364793385576792824 pw w 11 ann 1 384 (S_5 w os) (thr' (sts 18 10) ⟨27, 0, 27, 9⟩)) = fun os => some (Flow.next, S_6 w os, cE, ⟨57, 0, 64, 65⟩) := byRow2 row (P := fun w => (fun os => PySem.W.Fast.tw10110043849684766642 PySem.W.Fast.tw14364793385576792824 pw w 11 ann 1 384 (S_5 w os) (thr' (sts 18 10) ⟨27, 0, 27, 9⟩)) = fun os => some (Flow.next, S_6 w os, cE, ⟨57, 0, 64, 65⟩)) p_6f p_6t w
theorem r_6 (w : World) (os : OsState) : topRun treeTable pw w 11 ann (384 + (74 + (574 + (169 + (327 + (328 + (380 + (382 + (374 + (101 + 2)))))))))) (S_5 w os).abs (restOf (sts 18 10 ++ (sts 28 2 ++ (sts 30 1 ++ (sts 31 4 ++ (sts 35 1 ++ (sts 36 1 ++ (sts 37 6 ++ (sts 43 13 ++ (sts 56 12 ++ (sts 68 3 ++ [])))))))))) envE cE ⟨27, 0, 27, 9⟩ [topFrame qP]) = some (Sz w os) := piece_app (lift (p_6 w) os) (r_7 w os)
theorem r_5 (w : World) (os : OsState) : topRun treeTable pw w 11 ann (353 + (384 + (74 + (574 + (169 + (327 + (328 + (380 + (382 + (374 + (101 + 2))))))))))) (S_4 w os).abs (restOf (sts 8 10 ++ (sts 18 10 ++ (sts 28 2 ++ (sts 30 1 ++ (sts 31 4 ++ (sts 35 1 ++ (sts 36 1 ++ (sts 37 6 ++ (sts 43 13 ++ (sts 56 12 ++ (sts 68 3 ++ []))))))))))) envE cE ⟨14, 0, 15, 8⟩ [topFrame qP]) = some (Sz w os) := piece_app (lift (p_5 w) os) (r_6 w os)
theorem r_4 (w : World) (os : OsState) : topRun treeTable pw w 11 ann (214 + (353 + (384 + (74 + (574 + (169 + (327 + (328 + (380 + (382 + (374 + (101 + 2)))))))))))) (S_3 w os).abs (restOf (sts 7 1 ++ (sts 8 10 ++ (sts 18 10 ++ (sts 28 2 ++ (sts 30 1 ++ (sts 31 4 ++ (sts 35 1 ++ (sts 36 1 ++ (sts 37 6 ++ (sts 43 13 ++ (sts 56 12 ++ (sts 68 3 ++ [])))))))))))) envE cE ⟨12, 0, 13, 8⟩ [topFrame qP]) = some (Sz w os) := piece_app (lift (p_4 w) os) (r_5 w os)
theorem r_3 (w : World) (os : OsState) : topRun treeTable pw w 11 ann (214 + (214 + (353 + (384 + (74 + (574 + (169 + (327 + (328 + (380 + (382 + (374 + (101 + 2))))))))))))) (S_2 w os).abs (restOf (sts 6 1 ++ (sts 7 1 ++ (sts 8 10 ++ (sts 18 10 ++ (sts 28 2 ++ (sts 30 1 ++ (sts 31 4 ++ (sts 35 1 ++ (sts 36 1 ++ (sts 37 6 ++ (sts 43 13 ++ (sts 56 12 ++ (sts 68 3 ++ []))))))))))))) envE cE ⟨8, 0, 11, 28⟩ [topFrame qP]) = some (Sz w os) := piece_app (lift (p_3 w) os) (r_4 w os)
theorem r_2 (w : World) (os : OsState) : topRun treeTable pw w 11 ann (221 + (214 + (214 + (353 + (384 + (74 + (574 + (169 + (327 + (328 + (380 + (382 + (374 + (101 + 2)))))))))))))) (S_1 w os).abs (restOf (sts 5 1 ++ (sts 6 1 ++ (sts 7 1 ++ (sts 8 10 ++ (sts 18 10 ++ (sts 28 2 ++ (sts 30 1 ++ (sts 31 4 ++ (sts 35 1 ++ (sts 36 1 ++ (sts 37 6 ++ (sts 43 13 ++ (sts 56 12 ++ (sts 68 3 ++ [])))))))))))))) envE cE ⟨7, 0, 7, 8⟩ [topFrame qP]) = some (Sz w os) := piece_app (lift (p_2 w) os) (r_3 w os)
theorem p_1 (w : World) : (fun os => PySem.W.Fast.tw10110043849684766642 PySem.W.Fast.tw14364793385576792824 pw w 11 ann 1 266 (S_0 w os) (thr' (sts 2 3) ⟨4, 76, 4, 79⟩)) = fun os => some (Flow.next, S_1 w os, cE, ⟨7, 0, 7, 8⟩) := byRow2 row (P := fun w => (fun os => PySem.W.Fast.tw10110043849684766642 PySem.W.Fast.tw14364793385576792824 pw w 11 ann 1 266 (S_0 w os) (thr' (sts 2 3) ⟨4, 76, 4, 79⟩)) = fun os => some (Flow.next, S_1 w os, cE, ⟨7, 0, 7, 8⟩)) p_1f p_1t w
theorem r_1 (w : World) (os : OsState) : topRun treeTable pw w 11 ann (266 + (221 + (214 + (214 + (353 + (384 + (74 + (574 + (169 + (327 + (328 + (380 + (382 + (374 + (101 + 2))))))))))))))) (S_0 w os).abs (restOf (sts 2 3 ++ (sts 5 1 ++ (sts 6 1 ++ (sts 7 1 ++ (sts 8 10 ++ (sts 18 10 ++ (sts 28 2 ++ (sts 30 1 ++ (sts 31 4 ++ (sts 35 1 ++ (sts 36 1 ++ (sts 37 6 ++ (sts 43 13 ++ (sts 56 12 ++ (sts 68 3 ++ []))))))))))))))) envE cE ⟨4, 76, 4, 79⟩ [topFrame qP]) = some (Sz w os) := piece_app (lift (p_1 w) os) (r_2 w os)
theorem p_0 (w : World) : (fun os => PySem.W.Fast.tw10110043849684766642 PySem.W.Fast.tw14364793385576792824 pw w 11 ann 1 221 (S_b w os) (thr' (sts 0 2) ⟨0, 0, 0, 0⟩)) = fun os => some (Flow.next, S_0 w os, cE, ⟨4, 76, 4, 79⟩) := byRow2 row (P := fun w => (fun os => PySem.W.Fast.tw10110043849684766642 PySem.W.Fast.tw14364793385576792824 pw w 11 ann 1 221 (S_b w os) (thr' (sts 0 2) ⟨0, 0, 0, 0⟩)) = fun os => some (Flow.next, S_0 w os, cE, ⟨4, 76, 4, 79⟩)) p_0f p_0t w
theorem r_0 (w : World) (os : OsState) : topRun treeTable pw w 11 ann (221 + (266 + (221 + (214 + (214 + (353 + (384 + (74 + (574 + (169 + (327 + (328 + (380 + (382 + (374 + (101 + 2)))))))))))))))) (S_b w os).abs (restOf (sts 0 2 ++ (sts 2 3 ++ (sts 5 1 ++ (sts 6 1 ++ (sts 7 1 ++ (sts 8 10 ++ (sts 18 10 ++ (sts 28 2 ++ (sts 30 1 ++ (sts 31 4 ++ (sts 35 1 ++ (sts 36 1 ++ (sts 37 6 ++ (sts 43 13 ++ (sts 56 12 ++ (sts 68 3 ++ [])))))))))))))))) envE cE ⟨0, 0, 0, 0⟩ [topFrame qP]) = some (Sz w os) := piece_app (lift (p_0 w) os) (r_1 w os)
theorem body_is : (sts 0 2 ++ (sts 2 3 ++ (sts 5 1 ++ (sts 6 1 ++ (sts 7 1 ++ (sts 8 10 ++ (sts 18 10 ++ (sts 28 2 ++ (sts 30 1 ++ (sts 31 4 ++ (sts 35 1 ++ (sts 36 1 ++ (sts 37 6 ++ (sts 43 13 ++ (sts 56 12 ++ (sts 68 3 ++ [])))))))))))))))) = bodyE := by kernel_rfl
theorem run (w : World) (os : OsState) : topRun treeTable pw w 11 ann (12 + (1 + (221 + (266 + (221 + (214 + (214 + (353 + (384 + (74 + (574 + (169 + (327 + (328 + (380 + (382 + (374 + (101 + 2)))))))))))))))))) (S0 w os) (topStub pw) = some (Sz w os) :=
 go_top (pre w os) (piece_block (block w os) (by have h := r_0 w os; rw [body_is] at h; exact h))
theorem open_ : ∀ w : World, (fencedOpening treeTable pw w 9258).map (fun s => (s.heap, s.gens, s.drawn, s.toks)) = some (boot_heap w.params, Array.mk [], boot_drawn, boot_toks) :=
 boot_open (by kernel_rfl) (by kernel_rfl) (fun s => by kernel_rfl)
theorem size_ (w : World) : ((boot_heap w.params).isNs mainGlobals && (⟨[]⟩ : Array GenState).size == 0, (boot_heap w.params).objs.size, (boot_heap w.params).nsMap mainGlobals "__annotations__") = (true, 11, ann) := by kernel_rfl
noncomputable def loose : List Str := [s12, s13, s14, s15, s16, s17, s18, s19, s20, s21, s24, s25, s26, s27, s28, s29, s30, s31, s32, s33, s34, s35, s46, s47, s49, s50, s51, s52, s53, s54, s55, s56, s61, s62, s63, s64, s65, s66, s67, s68, s69, s71, s72, s73, s74, s75, s76, s89, s90, s98, s129, s130, s131, s132, s133, s137, s149, s168, s169, s170, s171, s172, s173, s189, s190, s191, s192, s193, s194, s195, s196, s197, s198, s199, s200, s210, s211, s212, s213, s214, s215, s216, s217, s218, s219, s220, s221, s230, s231]
noncomputable def qv : Program := { pw with main := { pw.main with body := [st 70] } }
noncomputable def Xt (_ : Shared) : Bool := true
theorem looks1 (w : World) : (fun os => (staticsOk (importedModules pw.main.body) (boot_heap w.params) (H1 w.params) && namesBound pw (H1 w.params) && gensDone (Sz w os) && laidKept (boot_heap w.params) (H1 w.params))) = fun _ => true := by kernel_rfl
theorem looks2' (w : World) : (fun os => PySem.W.Fast.tw4187177175401517315 qv loose (importedModules pw.main.body) Xt true (Sz w os)) = fun _ => openGood qv loose := by kernel_rfl
theorem looks2 (w : World) (os : OsState) : openSeen qv loose (importedModules pw.main.body) Xt true (Sz w os) = openGood qv loose := by
 have h2 := congrFun (looks2' w) os
 try dsimp only at h2
 rw [<- PySem.W.Fast.te4187177175401517315] at h2
 exact h2
theorem left {α : Type} {Yf : Shared -> α} {Ya : World -> α} (hY : ∀ w os, Yf (Sz w os) = Ya w) : LeftO pw qv loose Xt Yf Ya 9258 :=
 LeftO.of_pieces (H₀ := boot_heap) (H₁ := H1) (ann := ann) open_ size_ run (by kernel_rfl) fun w => funext fun os => Prod.ext (congrFun (looks1 w) os) (Prod.ext (looks2 w os) (hY w os))
end Mine.H
namespace Mine
section
theorem none_no {α} {x : α} {P : Prop} (e : none = some x) : P := nomatch e
theorem nil_no {α} {x : α} {P : Prop} (h : x ∈ []) : P := (List.not_mem_nil h).elim
theorem ff_no {P : Prop} (e : false = true) : P := nomatch e
theorem cps {p : Prop} (h : ∀ G : Prop, (p -> G) -> G) : p := h p id
set_option genCtorIdx false in
inductive V where
 | none
 | bool (b : Bool)
 | int (i : Int)
 | str (s : Str)
 | bytes (b : Array UInt8)
 | tup (vs : List V)
 | ref (a : Addr)
noncomputable abbrev tupO (xs : List Value) (n : Nat) : Obj := { cls := .type "tuple", data := .seq xs.toArray n }
noncomputable abbrev lstO (xs : List Value) (n : Nat) : Obj := { cls := .type "list", data := .seq xs.toArray n }
noncomputable abbrev dctO (es : List DictEntry) (n : Nat) : Obj := { cls := .type "dict", data := .dict es.toArray n }
noncomputable abbrev insO (C d : Addr) : Obj := { cls := .ref C, dict := some d, data := .plain }
mutual
noncomputable def VR (h : Heap) : V -> Value -> Prop
 | .none, v => v = .none
 | .bool b, v => v = .bool b
 | .int i, v => ∃ t, v = .int i t
 | .str s, v => ∃ t, v = .str s t
 | .bytes b, v => ∃ t, v = .bytes b t
 | .tup vs, v => ∃ a xs n, v = .ref a /\ h.get? a = some (tupO xs n) /\ VRs h vs xs
 | .ref a, v => v = .ref a
noncomputable def VRs (h : Heap) : List V -> List Value -> Prop
 | [], xs => xs = []
 | v :: vs, xs => ∃ x r, xs = x :: r /\ VR h v x /\ VRs h vs r
end
noncomputable def Grow (h h' : Heap) : Prop := ∀ a xs n, h.get? a = some (tupO xs n) -> h'.get? a = some (tupO xs n)
theorem Grow.refl (h : Heap) : Grow h h := fun O O O e => e
theorem Grow.trans {h h' h'' : Heap} (a : Grow h h') (b : Grow h' h'') : Grow h h'' := fun x o m e => b x o m (a x o m e)
theorem VR.grow {h h' : Heap} (g : Grow h h') {V : V} : ∀ {v}, VR h V v -> VR h' V v :=
 V.rec (motive_1 := fun V => ∀ {v}, VR h V v -> VR h' V v) (motive_2 := fun vs => ∀ {xs}, VRs h vs xs -> VRs h' vs xs) id (fun O => id) (fun O => id) (fun O => id) (fun O => id)
  (fun O ih {O} q => q.elim fun a q => q.elim fun xs q => q.elim fun n q => ⟨a, xs, n, q.1, g _ _ _ q.2.1, ih q.2.2⟩) (fun O => id) id
  (fun O O hv ih {O} q => q.elim fun x q => q.elim fun r q => ⟨x, r, q.1, hv q.2.1, ih q.2.2⟩)
theorem VRs.grow {h h' : Heap} (g : Grow h h') {vs : List V} : ∀ {xs}, VRs h vs xs -> VRs h' vs xs := by
 induction vs with
 | nil => exact id
 | cons v vs ih => exact fun q => q.elim fun x q => q.elim fun r q => ⟨x, r, q.1, q.2.1.grow g, ih q.2.2⟩
theorem VRs.length {h : Heap} {vs : List V} : ∀ {xs}, VRs h vs xs -> xs.length = vs.length := by
 induction vs with
 | nil => exact fun q => (show _ = _ from q) ▸ rfl
 | cons v vs ih => exact fun q => q.elim fun O q => q.elim fun O q => q.1 ▸ congrArg Nat.succ (ih q.2.2)
theorem VRs.get {h : Heap} {vs : List V} : ∀ {xs : List Value}, VRs h vs xs -> ∀ {i : Nat} {v}, vs[i]? = some v -> ∃ x, xs[i]? = some x /\ VR h v x := by
 induction vs with
 | nil => exact fun {xs} O {i v} e => none_no (List.getElem?_nil.symm.trans e)
 | cons w vs ih => exact fun {xs} q {i v} => q.elim fun y q => q.elim fun r q => q.1 ▸ i.rec (fun e => Option.some.inj e ▸ ⟨y, rfl, q.2.1⟩) fun i O e => ih q.2.2 (i := i) e
theorem VRs.append {h : Heap} {vs : List V} : ∀ {xs ws ys}, VRs h vs xs -> VRs h ws ys -> VRs h (vs ++ ws) (xs ++ ys) := by
 induction vs with
 | nil => exact fun q z => (show _ = _ from q) ▸ z
 | cons w vs ih => exact fun q z => q.elim fun y q => q.elim fun r q => q.1 ▸ ⟨y, _, rfl, q.2.1, ih q.2.2 z⟩
theorem VRs.set {h : Heap} {vs : List V} : ∀ {xs : List Value} {i : Nat} {v : V} {x : Value}, VRs h vs xs -> VR h v x -> VRs h (vs.set i v) (xs.set i x) := by
 induction vs with
 | nil => exact fun q O => (show _ = _ from q) ▸ rfl
 | cons w vs ih => exact fun {xs i v x} q p => q.elim fun y q => q.elim fun r q => q.1 ▸ i.rec ⟨x, r, rfl, p, q.2.2⟩ fun i O => ⟨y, _, rfl, q.2.1, ih q.2.2 p⟩
theorem VRs.take {h : Heap} {vs : List V} : ∀ {xs : List Value} (n : Nat), VRs h vs xs -> VRs h (vs.take n) (xs.take n) := by
 induction vs with
 | nil => exact fun n q => (show _ = _ from q) ▸ n.rec rfl fun O O => rfl
 | cons w vs ih => exact fun {xs} n q => n.rec rfl fun n O => q.elim fun y q => q.elim fun r q => q.1 ▸ ⟨y, _, rfl, q.2.1, ih n q.2.2⟩
theorem VRs.drop {h : Heap} {vs : List V} : ∀ {xs : List Value} (n : Nat), VRs h vs xs -> VRs h (vs.drop n) (xs.drop n) := by
 induction vs with
 | nil => exact fun n q => (show _ = _ from q) ▸ n.rec rfl fun O O => rfl
 | cons w vs ih => exact fun {xs} n q => n.rec q fun n O => q.elim fun y q => q.elim fun r q => q.1 ▸ ih n q.2.2
theorem VR.onTup {h : Heap} {vs : List V} {v} {P : Prop} (q : VR h (.tup vs) v) (k : ∀ a xs m, v = .ref a -> h.get? a = some (tupO xs m) -> VRs h vs xs -> P) : P := q.elim fun a q => q.elim fun xs q => q.elim fun m q => k a xs m q.1 q.2.1 q.2.2
theorem VRs.two {h : Heap} {v x} (a : VR h v x) : VRs h [v] [x] := ⟨x, [], rfl, a, rfl⟩
set_option genCtorIdx false in
inductive Cell where
 | list (vs : List V)
 | dict (kvs : List (Int × V)) (ep : Nat)
 | rng (a b c : Int)
 | items (d : Addr)
 | inst (C d : Addr)
 | attrs (kvs : List (Str × V))
noncomputable def VPs (h : Heap) : List (Int × V) -> List (Int × Value) -> Prop
 | [], es => es = []
 | p :: r, es => ∃ x r', es = (p.1, x) :: r' /\ VR h p.2 x /\ VPs h r r'
noncomputable def ARs (h : Heap) : List (Str × V) -> List DictEntry -> Prop
 | [], es => es = []
 | p :: r, es => ∃ e r', es = e :: r' /\ (∃ t, e.key = .str p.1 t) /\ VR h p.2 e.val /\ ARs h r r'
theorem VPs.grow {h h' : Heap} (g : Grow h h') {vs : List (Int × V)} : ∀ {xs}, VPs h vs xs -> VPs h' vs xs := by
 induction vs with
 | nil => exact id
 | cons p vs ih => exact fun q => q.elim fun x q => q.elim fun r q => ⟨x, r, q.1, q.2.1.grow g, ih q.2.2⟩
theorem ARs.grow {h h' : Heap} (g : Grow h h') {vs : List (Str × V)} : ∀ {xs}, ARs h vs xs -> ARs h' vs xs := by
 induction vs with
 | nil => exact id
 | cons p vs ih => exact fun q => q.elim fun x q => q.elim fun r q => ⟨x, r, q.1, q.2.1, q.2.2.1.grow g, ih q.2.2.2⟩
noncomputable abbrev knd (w : World) := intKind PySem.Challenge.pw_tu0004_01 w
noncomputable def CR (w : World) (h : Heap) : Cell -> Addr -> Prop
 | .list vs, a => ∃ xs n, h.get? a = some (lstO xs n) /\ VRs h vs xs
 | .dict kvs ep, a => ∃ es, h.DictAt (knd w) a es ep /\ VPs h kvs es
 | .rng x y z, a => ∃ t u v, IsRange h a x y z t u v
 | .items d, a => h.get? a = some { cls := .type "dict_items", data := .fields #[.ref d] }
 | .inst C d, a => h.get? a = some (insO C d)
 | .attrs kvs, a => ∃ es n, h.get? a = some (dctO es n) /\ ARs h kvs es
noncomputable abbrev Hp := Addr -> Option Cell
noncomputable def Hp.set (H : Hp) (a : Addr) (c : Cell) : Hp := fun b => if b = a then some c else H b
@[simp] theorem Hp.set_same (H : Hp) (a : Addr) (c : Cell) : (H.set a c) a = some c := by simp [Hp.set]
theorem Hp.set_ne {H : Hp} {a b : Addr} {c : Cell} (h : b ≠ a) : (H.set a c) b = H b := by simp [Hp.set, h]
noncomputable def Hp.le (H H' : Hp) : Prop := ∀ a c, H a = some c -> H' a = some c
structure Wd where
 w : World
 B : Heap
 o0 : OsState
 K : Frag
 mg : Str -> Option Value
 mb : Str -> Option Value
 hg : B.Ns mainGlobals mg
 hb : B.Ns builtinsNs mb
 lim : B.NoLimit
 hK : K.In B
 sys : ∃ o, B.get? sysModules = some o
 bi : ∀ x : Str, x ≠ "__name__" -> mb x = bootBuiltins x
noncomputable abbrev Pin := Addr -> Option Obj
noncomputable abbrev MM (X : Wd) := model PySem.Challenge.pw_tu0004_01 X.w
structure St (X : Wd) (P : Pin) (H : Hp) (s : Shared) : Prop where
 base : ∀ a o, X.B.get? a = some o -> P a = some o
 pin : ∀ a o, P a = some o -> s.heap.get? a = some o
 cell : ∀ a c, H a = some c -> P a = none /\ CR X.w s.heap c a
 gens : s.gens = #[]
 os : s.os = X.o0
structure Room (n : Nat) (A : Around) : Prop where
 depth : A.depth + n <= 900
 units : A.units + 10 * n <= 9000
 hd : A.handled = none
theorem St.keep {X : Wd} {P : Pin} {H : Hp} {s : Shared} (S : St X P H s) : ∀ a o, X.B.get? a = some o -> s.heap.get? a = some o := fun a o e => S.pin a o (S.base a o e)
theorem St.K {X : Wd} {P : Pin} {H : Hp} {s : Shared} (S : St X P H s) : X.K.In s.heap := fun a o e => S.keep a o (X.hK a o e)
theorem St.limit {X : Wd} {P : Pin} {H : Hp} {s : Shared} (S : St X P H s) : s.heap.NoLimit := X.lim.at fun o e => S.keep _ o e
theorem St.le {X : Wd} {P : Pin} {H H' : Hp} {s : Shared} (S : St X P H s) (l : Hp.le H' H) : St X P H' s :=
 ⟨S.base, S.pin, fun a c e => S.cell a c (l a c e), S.gens, S.os⟩
theorem St.toks {X : Wd} {P : Pin} {H : Hp} {s : Shared} (S : St X P H s) (n : Nat) : St X P H { s with toks := n } := ⟨S.base, S.pin, S.cell, S.gens, S.os⟩
inductive PV (X : Wd) (P : Pin) (h : Heap) (Q : V -> Hp -> Prop) (v : Value) (s' : Shared) : Prop
 | i (w : V) (H' : Hp) (r : VR s'.heap w v) (S : St X P H' s') (g : Grow h s'.heap) (q : Q w H')
inductive PB (X : Wd) (P : Pin) (h : Heap) (Q : Bool -> Hp -> Prop) (b : Bool) (s' : Shared) : Prop
 | i (H' : Hp) (S : St X P H' s') (g : Grow h s'.heap) (q : Q b H')
noncomputable abbrev noE : Value -> Shared -> Prop := fun O O => False
theorem PV.mk {X : Wd} {P : Pin} {h : Heap} {Q : V -> Hp -> Prop} {v : Value} {s' : Shared} {V : V} {H' : Hp} (S : St X P H' s') (r : VR s'.heap V v) (g : Grow h s'.heap) (q : Q V H') : PV X P h Q v s' := ⟨V, H', r, S, g, q⟩
theorem PV.grow {X : Wd} {P : Pin} {h h₁ : Heap} {Q : V -> Hp -> Prop} {v : Value} {s' : Shared} (g : Grow h h₁) (x : PV X P h₁ Q v s') : PV X P h Q v s' :=
 x.rec fun V H' r S k q => ⟨V, H', r, S, g.trans k, q⟩
theorem PB.grow {X : Wd} {P : Pin} {h h₁ : Heap} {Q : Bool -> Hp -> Prop} {v : Bool} {s' : Shared} (g : Grow h h₁) (x : PB X P h₁ Q v s') : PB X P h Q v s' :=
 x.rec fun H' S k q => ⟨H', S, g.trans k, q⟩
theorem vr_int {h : Heap} {i : Int} {t : Tok} : VR h (.int i) (.int i t) := ⟨t, rfl⟩
theorem vr_str {h : Heap} {x : Str} {t : Tok} : VR h (.str x) (.str x t) := ⟨t, rfl⟩
theorem vr_bytes {h : Heap} {x : Array UInt8} {t : Tok} : VR h (.bytes x) (.bytes x t) := ⟨t, rfl⟩
theorem vr_bool {h : Heap} {b : Bool} : VR h (.bool b) (.bool b) := rfl
theorem vr_none {h : Heap} : VR h .none .none := rfl
theorem vr_ref {h : Heap} {a : Addr} : VR h (.ref a) (.ref a) := rfl
end
section
noncomputable def GlobV (X : Wd) (x : Str) (v : Value) : Prop := X.mg x = some v \/ (X.mg x = none /\ X.mb x = some v)
structure FI where
 G : List (Str × Value)
 L : List Str
 C : List Str
 R : List Str
structure EnvOK (X : Wd) (env : Env) (fi : FI) : Prop where
 kind : env.scope.kind = .function
 globs : env.globals = mainGlobals
 blt : env.builtins = builtinsNs
 gl : ∀ p ∈ fi.G, env.kindOf p.1 = some .globalImplicit /\ (p.1 == ("__debug__" : Str)) = false /\ GlobV X p.1 p.2
 ln : ∀ x ∈ fi.L, env.kindOf x = some .local /\ (x == ("__debug__" : Str)) = false
 nd : fi.L.Nodup
 ndC : (fi.C ++ fi.R).Nodup
 cl : ∀ x ∈ fi.C, env.kindOf x = some .cell
 cn : ∀ x ∈ fi.C ++ fi.R, (env.kindOf x = some .cell \/ env.kindOf x = some .free) /\ (x == ("__debug__" : Str)) = false /\ (x == ("__classdict__" : Str)) = false
structure Frame where
 L : List (Str × Option V)
 C : List (Str × Option V)
noncomputable def NsO (o : Obj) (m : Str -> Option Value) : Prop := ∃ es ep, o.data = .dict es ep /\ StrKeys es /\ ∀ name, nsFind es name = m name
structure FrOK (X : Wd) (fi : FI) (P : Pin) (env : Env) (F : Frame) (h : Heap) : Prop where
 nL : F.L.map (·.1) = fi.L
 nC : F.C.map (·.1) = fi.C ++ fi.R
 fresh : X.B.get? env.locals = none
 loc : ∃ o m, P env.locals = some o /\ NsO o m /\ ∀ p ∈ F.L, ∀ V, p.2 = some V -> ∃ v, m p.1 = some v /\ VR h V v
 cel : ∀ p ∈ F.C, ∃ c o u, env.cells.lookup p.1 = some c /\ P c = some o /\ X.B.get? c = none /\ o.data = .cell u /\ ∀ V, p.2 = some V -> ∃ v, u = some v /\ VR h V v
 inj : ∀ p ∈ F.C, ∀ q ∈ F.C, ∀ c, env.cells.lookup p.1 = some c -> env.cells.lookup q.1 = some c -> p.1 = q.1
theorem FrOK.grow {X : Wd} {fi : FI} {P : Pin} {env : Env} {F : Frame} {h h' : Heap} (g : Grow h h') (x : FrOK X fi P env F h) : FrOK X fi P env F h' :=
 ⟨x.nL, x.nC, x.fresh, (x.loc).elim fun o q1 => q1.elim fun m q2 => q2.elim fun a q3 => q3.elim fun b c => ⟨o, m, a, b, fun p hp V e => (c p hp V e).elim fun v q1 => q1.elim fun d r => ⟨v, d, r.grow g⟩⟩,
  fun p hp => (x.cel p hp).elim fun c q1 => q1.elim fun o q2 => q2.elim fun u q3 => q3.elim fun a q4 => q4.elim fun b q5 => q5.elim fun b' q6 => q6.elim fun d e => ⟨c, o, u, a, b, b', d, fun V q => (e V q).elim fun v q1 => q1.elim fun r z => ⟨v, r, z.grow g⟩⟩, x.inj⟩
inductive Get : List (Str × Option V) -> Str -> V -> Prop
 | here {x v r} : Get ((x, some v) :: r) x v
 | next {p r x v} : Get r x v -> Get (p :: r) x v
inductive Put : List (Str × Option V) -> Str -> V -> List (Str × Option V) -> Prop
 | here {x o v r} : Put ((x, o) :: r) x v ((x, some v) :: r)
 | next {p r x v r'} : Put r x v r' -> Put (p :: r) x v (p :: r')
inductive GetG : List (Str × Value) -> Str -> Value -> Prop
 | here {x v r} : GetG ((x, v) :: r) x v
 | next {p r x v} : GetG r x v -> GetG (p :: r) x v
theorem Get.mem {l x v} (h : Get l x v) : (x, some v) ∈ l := by
 induction h with
 | here => exact .head _
 | next _ ih => exact .tail _ ih
theorem GetG.mem {l x v} (h : GetG l x v) : (x, v) ∈ l := by
 induction h with
 | here => exact .head _
 | next _ ih => exact .tail _ ih
theorem Put.names {l x v l'} (h : Put l x v l') : l'.map (·.1) = l.map (·.1) := by
 induction h with
 | here => rfl
 | next _ ih => rw [List.map_cons, List.map_cons, ih]
theorem Put.has {l x v l'} (h : Put l x v l') : x ∈ l.map (·.1) := by
 induction h with
 | here => exact .head _
 | next _ ih => exact .tail _ ih
theorem Put.mem {l x v l'} (h : Put l x v l') (nd : (l.map (·.1)).Nodup) : ∀ p ∈ l', (p.1 = x /\ p.2 = some v) \/ (p ∈ l /\ p.1 ≠ x) := by
 induction h with
 | here =>
  intro p hp
  rcases List.mem_cons.mp hp with rfl | hp
  ·exact .inl ⟨rfl, rfl⟩
  ·refine .inr ⟨.tail _ hp, fun e => ?_⟩
   rw [List.map_cons, List.nodup_cons] at nd
   exact nd.1 (by have := List.mem_map_of_mem (f := (·.1)) hp; rw [e] at this; exact this)
 | @next p0 r0 x0 v0 r1 h' ih =>
  intro p hp
  rw [List.map_cons, List.nodup_cons] at nd
  rcases List.mem_cons.mp hp with rfl | hp
  ·exact .inr ⟨.head _, fun e => nd.1 (e ▸ h'.has)⟩
  ·rcases ih nd.2 p hp with a | ⟨a, b⟩
   ·exact .inl a
   ·exact .inr ⟨.tail _ a, b⟩
section
variable (X : Wd) (n : Nat) (fi : FI) (env : Env)
noncomputable def WE (F : Frame) (e : Expr) (H : Hp) (Q : V -> Hp -> Prop) : Prop :=
 EnvOK X env fi -> ∀ A P s, Room n A -> St X P H s -> FrOK X fi P env F s.heap -> wpAny (MM X) A (eval e env) (PV X P s.heap Q) noE s
noncomputable def WT (F : Frame) (e : Expr) (H : Hp) (Q : Bool -> Hp -> Prop) : Prop :=
 EnvOK X env fi -> ∀ A P s, Room n A -> St X P H s -> FrOK X fi P env F s.heap -> wpAny (MM X) A (isTrue e env (eval e env)) (PB X P s.heap Q) noE s
inductive PVs (P : Pin) (h : Heap) (Q : List V -> Hp -> Prop) (vs : List Value) (s' : Shared) : Prop
 | i (Vs : List V) (H' : Hp) (r : VRs s'.heap Vs vs) (S : St X P H' s') (g : Grow h s'.heap) (q : Q Vs H')
noncomputable def WEs (F : Frame) (es : List Expr) (H : Hp) (Q : List V -> Hp -> Prop) : Prop :=
 EnvOK X env fi -> ∀ A P s pos, Room n A -> St X P H s -> FrOK X fi P env F s.heap -> wpAny (MM X) A (spliced (backTo pos (starEach es env))) (PVs X P s.heap Q) noE s
noncomputable def W2 (t : Value -> Value -> Sem Value) (a b : V) (H : Hp) (Q : V -> Hp -> Prop) : Prop :=
 ∀ A P s va vb, Room n A -> St X P H s -> VR s.heap a va -> VR s.heap b vb -> wpAny (MM X) A (t va vb) (PV X P s.heap Q) noE s
noncomputable def W1 (t : Value -> Sem Value) (a : V) (H : Hp) (Q : V -> Hp -> Prop) : Prop :=
 ∀ A P s va, Room n A -> St X P H s -> VR s.heap a va -> wpAny (MM X) A (t va) (PV X P s.heap Q) noE s
noncomputable def W1B (t : Value -> Sem Bool) (a : V) (H : Hp) (Q : Bool -> Hp -> Prop) : Prop :=
 ∀ A P s va, Room n A -> St X P H s -> VR s.heap a va -> wpAny (MM X) A (t va) (PB X P s.heap Q) noE s
end
noncomputable abbrev WOp (X : Wd) (n : Nat) (op : Operator) := W2 X n (binaryOp op)
noncomputable abbrev WCmp (X : Wd) (n : Nat) (op : CmpOp) := W2 X n (compareOp op)
noncomputable abbrev WTr (X : Wd) (n : Nat) := W1B X n truthy
section
variable {X : Wd} {n : Nat} {fi : FI} {env : Env} {F : Frame} {H : Hp} {Q : V -> Hp -> Prop}
theorem W2.use {t : Value -> Value -> Sem Value} {a b : V} (h : W2 X n t a b H Q) {A : Around} {P : Pin} {s : Shared} {h0 : Heap} {va vb : Value} (r : Room n A) (S : St X P H s) (ra : VR s.heap a va) (rb : VR s.heap b vb) (g : Grow h0 s.heap) :
  wpAny (MM X) A (t va vb) (PV X P h0 Q) noE s := wpAny_mono (h A P s va vb r S ra rb) (fun O O x => x.grow g) fun O O x => x
theorem W1.use {t : Value -> Sem Value} {a : V} (h : W1 X n t a H Q) {A : Around} {P : Pin} {s : Shared} {h0 : Heap} {va : Value} (r : Room n A) (S : St X P H s) (ra : VR s.heap a va) (g : Grow h0 s.heap) :
  wpAny (MM X) A (t va) (PV X P h0 Q) noE s := wpAny_mono (h A P s va r S ra) (fun O O x => x.grow g) fun O O x => x
theorem W1B.use {t : Value -> Sem Bool} {a : V} {Q : Bool -> Hp -> Prop} (h : W1B X n t a H Q) {A : Around} {P : Pin} {s : Shared} {h0 : Heap} {va : Value} (r : Room n A) (S : St X P H s) (ra : VR s.heap a va) (g : Grow h0 s.heap) :
  wpAny (MM X) A (t va) (PB X P h0 Q) noE s := wpAny_mono (h A P s va r S ra) (fun O O x => x.grow g) fun O O x => x
theorem WE.use {e : Expr} (h : WE X n fi env F e H Q) (E : EnvOK X env fi) {A : Around} {P : Pin} {s : Shared} {h0 : Heap} (r : Room n A) (S : St X P H s) (f : FrOK X fi P env F s.heap) (g : Grow h0 s.heap) :
  wpAny (MM X) A (eval e env) (PV X P h0 Q) noE s := wpAny_mono (h E A P s r S f) (fun O O x => x.grow g) fun O O x => x
theorem we_int {i k pos} (h : Q (.int i) H) : WE X n fi env F (.Constant (.int i) k pos) H Q := fun O O O s O S O =>
 wpAny_Constant_int (.mk (S.toks _) vr_int (Grow.refl _) h)
theorem we_str {x k pos} (h : Q (.str x) H) : WE X n fi env F (.Constant (.str x) k pos) H Q := fun O O O s O S O =>
 Constant_str (.mk (S.toks _) vr_str (Grow.refl _) h)
theorem we_bool {b k pos} (h : Q (.bool b) H) : WE X n fi env F (.Constant (.bool b) k pos) H Q := fun O O O s O S O =>
 wpAny_Constant_bool (.mk S vr_bool (Grow.refl _) h)
theorem we_none {k pos} (h : Q .none H) : WE X n fi env F (.Constant .none k pos) H Q := fun O O O s O S O =>
 wpAny_Constant_none (.mk S vr_none (Grow.refl _) h)
theorem NsO.ns {h : Heap} {a : Addr} {o : Obj} {m} (x : NsO o m) (e : h.get? a = some o) : h.Ns a m := (x).elim fun es q1 => q1.elim fun ep q2 => q2.elim fun p q3 => q3.elim fun q r => ⟨o, es, ep, e, p, q, r⟩
theorem we_loc {x pos v} (g : Get F.L x v) (h : Q v H) : WE X n fi env F (.Name x pos) H Q := fun E A P s r S f => by
 refine cps fun G0 z0 => ?_
 obtain ⟨o, m, a, b, c⟩ := f.loc
 obtain ⟨u, e, q⟩ := c _ g.mem _ rfl
 obtain ⟨k1, k2⟩ := E.ln x (f.nL ▸ List.mem_map_of_mem (f := (·.1)) g.mem)
 refine z0 ?_
 clear z0
 exact wpAny_Name (wpAny_loadName_local E.kind k1 (b.ns (S.pin _ _ a)) e (.mk S q (Grow.refl _) h)) k2
theorem we_cel {x pos v} (g : Get F.C x v) (h : Q v H) : WE X n fi env F (.Name x pos) H Q := fun E A P s r S f => by
 refine cps fun G0 z0 => ?_
 obtain ⟨c, o, u, a, b, b', d, e⟩ := f.cel _ g.mem
 obtain ⟨v', rfl, q⟩ := e _ rfl
 obtain ⟨k1, k2, k3⟩ := E.cn x (f.nC ▸ List.mem_map_of_mem (f := (·.1)) g.mem)
 refine z0 ?_
 clear z0
 rcases k1 with k1 | k1
 ·exact wpAny_Name (wpAny_loadName_cell E.kind k1 a ⟨o, S.pin _ _ b, d⟩ (.mk S q (Grow.refl _) h)) k2
 ·exact wpAny_Name (wpAny_loadName_free E.kind k1 a ⟨o, S.pin _ _ b, d⟩ (.mk S q (Grow.refl _) h) k3) k2
theorem St.globals {P : Pin} {s : Shared} (S : St X P H s) : s.heap.Ns mainGlobals X.mg := X.hg.at fun o e => S.keep _ o e
theorem St.builtins {P : Pin} {s : Shared} (S : St X P H s) : s.heap.Ns builtinsNs X.mb := X.hb.at fun o e => S.keep _ o e
theorem glob_tree {x pos v} (g : GetG fi.G x v) (E : EnvOK X env fi) {A : Around} {P : Pin} {s : Shared} {R : Value -> Shared -> Prop} (S : St X P H s) (h : R v s) : wpAny (MM X) A (eval (.Name x pos) env) R noE s := by
 obtain ⟨k1, k2, k3⟩ := E.gl _ g.mem
 refine Name_function_global E.kind k1 ?_ k2
 rcases k3 with k3 | ⟨k3, k4⟩
 ·exact loadGlobal_global (E.globs ▸ S.globals) k3 h
 ·exact loadGlobal_builtin (E.globs ▸ S.globals) k3 (E.blt ▸ S.builtins) k4 h
theorem we_glob {x pos v V} (g : GetG fi.G x v) (e : ∀ h : Heap, VR h V v) (h : Q V H) : WE X n fi env F (.Name x pos) H Q := fun E A P s r S f =>
 glob_tree g E S (.mk S (e _) (Grow.refl _) h)
theorem we_globI {x pos i t} (g : GetG fi.G x (.int i t)) (h : Q (.int i) H) : WE X n fi env F (.Name x pos) H Q := we_glob g (fun O => vr_int) h
theorem we_bin {l op r pos} (h : WE X n fi env F l H (fun a H₁ => WE X n fi env F r H₁ (fun b H₂ => WOp X n op a b H₂ Q))) : WE X n fi env F (.BinOp l op r pos) H Q := fun E A P s r S f =>
 wpAny_BinOp (wpAny_mono (h E A P s r S f) (fun va s₁ p0 => p0.casesOn fun a H₁ ra S₁ g₁ q =>
  wpAny_mono (q E A P s₁ r S₁ (f.grow g₁)) (fun vb s₂ p0 => p0.casesOn fun b H₂ rb S₂ g₂ q₂ => q₂.use r S₂ (ra.grow g₂) rb (g₁.trans g₂)) fun O O x => x) fun O O x => x)
theorem op_add {a b : Int} (h : Q (.int (a + b)) H) : WOp X n .Add (.int a) (.int b) H Q := fun A P s va vb r S ⟨t, e⟩ ⟨u, e'⟩ => by
 subst e e'; exact PyProof.Rows.add_int (.mk (S.toks _) vr_int (Grow.refl _) h)
theorem op_sub {a b : Int} (h : Q (.int (a - b)) H) : WOp X n .Sub (.int a) (.int b) H Q := fun A P s va vb r S ⟨t, e⟩ ⟨u, e'⟩ => by
 subst e e'; exact PyProof.Rows.sub_int (.mk (S.toks _) vr_int (Grow.refl _) h)
theorem bits_le {a : Int} (h : a.natAbs < 2 ^ 64) : Builtin.Int.intBits a <= 64 := by
 unfold Builtin.Int.intBits
 split
 ·lia
 ·have := Nat.log2_lt (n := a.natAbs) (k := 64) (by rename_i q; simp at q; lia)
  have := this.mpr h; lia
theorem op_mul {a b : Int} (hs : a.natAbs < 2 ^ 64 \/ b.natAbs < 2 ^ 64) (h : Q (.int (a * b)) H) : WOp X n .Mult (.int a) (.int b) H Q := fun A P s va vb r S ⟨t, e⟩ ⟨u, e'⟩ => by
 subst e e'; exact PyProof.Rows.mul_int (.mk (S.toks _) vr_int (Grow.refl _) h) (hs.elim (fun x => .of_left (bits_le x)) fun x => .of_right (bits_le x))
theorem op_div {a b : Int} (h0 : 0 < b) (h1 : b < 1073741824) (h : Q (.int (a / b)) H) : WOp X n .FloorDiv (.int a) (.int b) H Q := fun A P s va vb r S ⟨t, e⟩ ⟨u, e'⟩ => by
 subst e e'; exact PyProof.Rows.floordiv_int (by lia) (.mk (S.toks _) (by rw [Int.fdiv_eq_ediv_of_nonneg _ (by lia)]; exact vr_int) (Grow.refl _) h) (Or.inl (PyProof.noPylong_small (by omega)))
theorem op_mod {a b : Int} (h0 : 0 < b) (h : Q (.int (a % b)) H) : WOp X n .Mod (.int a) (.int b) H Q := fun A P s va vb r S ⟨t, e⟩ ⟨u, e'⟩ => by
 subst e e'; exact PyProof.Rows.mod_int' (by lia) (.mk (S.toks _) (by rw [Int.fmod_eq_emod_of_nonneg _ (by lia)]; exact vr_int) (Grow.refl _) h)
theorem op_pow {a b : Int} (h0 : 0 <= b) (h1 : (Builtin.Int.intBits a : Int) * b <= 2 ^ 27) (h : Q (.int (a ^ b.toNat)) H) : WOp X n .Pow (.int a) (.int b) H Q := fun A P s va vb r S ⟨t, e⟩ ⟨u, e'⟩ => by
 subst e e'; exact PyProof.Rows.pow_int h0 h1 (.mk (S.toks _) vr_int (Grow.refl _) h)
theorem we_neg {e pos} (h : WE X n fi env F e H (fun a H₁ => W1 X n (unaryOp .USub) a H₁ Q)) : WE X n fi env F (.UnaryOp .USub e pos) H Q := fun E A P s r S f =>
 wpAny_UnaryOp (wpAny_mono (h E A P s r S f) (fun va s₁ p0 => p0.casesOn fun a H₁ ra S₁ g₁ q => q.use r S₁ ra g₁) fun O O x => x)
theorem op_neg {a : Int} (h : Q (.int (-a)) H) : W1 X n (unaryOp .USub) (.int a) H Q := fun A P s va r S ⟨t, e⟩ => by
 subst e; exact PyProof.Rows.neg_int (.mk (S.toks _) vr_int (Grow.refl _) h)
theorem cmp_lt {a b : Int} (h : Q (.bool (decide (a < b))) H) : WCmp X n .Lt (.int a) (.int b) H Q := fun A P s va vb r S ⟨t, e⟩ ⟨u, e'⟩ => by
 subst e e'; exact PyProof.Rows.lt_int (.mk S vr_bool (Grow.refl _) h)
theorem cmp_le {a b : Int} (h : Q (.bool (decide (a <= b))) H) : WCmp X n .LtE (.int a) (.int b) H Q := fun A P s va vb r S ⟨t, e⟩ ⟨u, e'⟩ => by
 subst e e'; exact PyProof.Rows.le_int (.mk S vr_bool (Grow.refl _) h)
theorem cmp_gt {a b : Int} (h : Q (.bool (decide (b < a))) H) : WCmp X n .Gt (.int a) (.int b) H Q := fun A P s va vb r S ⟨t, e⟩ ⟨u, e'⟩ => by
 subst e e'; exact PyProof.Rows.gt_int (.mk S vr_bool (Grow.refl _) h)
theorem cmp_ge {a b : Int} (h : Q (.bool (decide (b <= a))) H) : WCmp X n .GtE (.int a) (.int b) H Q := fun A P s va vb r S ⟨t, e⟩ ⟨u, e'⟩ => by
 subst e e'; exact PyProof.Rows.ge_int (.mk S vr_bool (Grow.refl _) h)
end
end
section
theorem le_line {k : Nat} (h : k <= 10000000) : k <= sizeLine := Nat.le_trans h (by decide)
noncomputable def notTup (o : Obj) : Prop := ∀ xs n, o ≠ tupO xs n
theorem Grow.push (h : Heap) (o : Obj) : Grow h (h.push o) := fun O O O e => Heap.get?_push_of_some o e
theorem CR.mono {w : World} {h h' : Heap} (g : Grow h h') {c : Cell} {a : Addr} (r : CR w h c a) (e : h'.get? a = h.get? a) : CR w h' c a := by
 induction c with
 | list vs => obtain ⟨xs, n, q, z⟩ := r; exact ⟨xs, n, e.trans q, z.grow g⟩
 | dict kvs ep => obtain ⟨xs, ⟨o, es, q, z⟩, y⟩ := r; exact ⟨xs, ⟨o, es, e.trans q, z⟩, y.grow g⟩
 | rng x y z => obtain ⟨t, u, v, q⟩ := r; exact ⟨t, u, v, e.trans q⟩
 | items d => exact e.trans r
 | inst C d => exact e.trans r
 | attrs kvs => obtain ⟨xs, n, q, z⟩ := r; exact ⟨xs, n, e.trans q, z.grow g⟩
theorem CR.list {P : World} {h : Heap} {vs : List V} {xs : List Value} {n : Nat} {a : Addr} (e : h.get? a = some (lstO xs n)) (r : VRs h vs xs) : CR P h (.list vs) a := ⟨xs, n, e, r⟩
theorem CR.dict {w : World} {h : Heap} {kvs : List (Int × V)} {es : List (Int × Value)} {ep : Nat} {a : Addr} (d : h.DictAt (knd w) a es ep) (r : VPs h kvs es) : CR w h (.dict kvs ep) a := ⟨es, d, r⟩
theorem CR.attrs {P : World} {h : Heap} {vs : List (Str × V)} {xs : List DictEntry} {n : Nat} {a : Addr} (e : h.get? a = some (dctO xs n)) (r : ARs h vs xs) : CR P h (.attrs vs) a := ⟨xs, n, e, r⟩
theorem CR.inst {P : World} {h : Heap} {C d a : Addr} (e : h.get? a = some (insO C d)) : CR P h (.inst C d) a := e
theorem CR.some {P : World} {h : Heap} {c : Cell} {a : Addr} (r : CR P h c a) : ∃ o, h.get? a = some o /\ notTup o := by
 induction c with
 | list vs => obtain ⟨xs, n, q, z⟩ := r; exact ⟨_, q, fun O O e => by simp at e⟩
 | dict kvs ep => obtain ⟨xs, ⟨o, es, q, _, z, _⟩, y⟩ := r; exact ⟨_, q, fun O O e => by rw [e] at z; cases z⟩
 | rng x y z => obtain ⟨t, u, v, q⟩ := r; exact ⟨_, q, fun O O e => by simp at e⟩
 | items d => exact ⟨_, r, fun O O e => by simp at e⟩
 | inst C d => exact ⟨_, r, fun O O e => by simp at e⟩
 | attrs kvs => obtain ⟨xs, n, q, z⟩ := r; exact ⟨_, q, fun O O e => by simp at e⟩
section
variable {X : Wd} {P : Pin} {H : Hp} {s : Shared}
theorem St.none_size (S : St X P H s) : H s.heap.objs.size = none /\ P s.heap.objs.size = none := by
 constructor
 ·cases e : H s.heap.objs.size with
  | none => rfl
  | some c => obtain ⟨o, q, _⟩ := (S.cell _ _ e).2.some; exact absurd (Heap.lt_size q) (Nat.lt_irrefl _)
 ·cases e : P s.heap.objs.size with
  | none => rfl
  | some c => exact absurd (Heap.lt_size (S.pin _ _ e)) (Nat.lt_irrefl _)
theorem get_push_lt {h : Heap} {o : Obj} {a : Addr} (l : a < h.objs.size) : (h.push o).get? a = h.get? a := PySem.Heap.get?_push_ne h a o (Nat.ne_of_lt l)
theorem St.push (S : St X P H s) (o : Obj) : St X P H { s with heap := s.heap.push o } :=
 ⟨S.base, fun a o' e => Heap.get?_push_of_some o (S.pin a o' e), fun a c e => ⟨(S.cell a c e).1, by
  obtain ⟨o', q, _⟩ := (S.cell a c e).2.some
  exact (S.cell a c e).2.mono (Grow.push _ _) (get_push_lt (Heap.lt_size q))⟩, S.gens, S.os⟩
theorem St.alloc (S : St X P H s) {o : Obj} {c : Cell} (r : CR X.w (s.heap.push o) c s.heap.objs.size) : St X P (H.set s.heap.objs.size c) { s with heap := s.heap.push o } :=
 ⟨S.base, (S.push o).pin, fun a c' e => by
  unfold Hp.set at e
  split at e
  ·rename_i q; subst q; cases e; exact ⟨S.none_size.2, r⟩
  ·exact (S.push o).cell a c' e, S.gens, S.os⟩
theorem grow_same {h h' : Heap} {a : Addr} {o : Obj} (e : h.get? a = some o) (t : notTup o) (b : Heap.SameBut a h h') : Grow h h' := fun x xs m q => by
 by_cases k : x = a
 ·subst k; rw [e] at q; exact absurd (Option.some.inj q) (t xs m)
 ·rw [b.2 x k]; exact q
theorem St.same (S : St X P H s) {a : Addr} {c c' : Cell} (e : H a = some c) {h' : Heap} (b : Heap.SameBut a s.heap h') (r : CR X.w h' c' a) {tk : Nat} : St X P (H.set a c') { s with heap := h', toks := tk } := by
 obtain ⟨o, q, t⟩ := (S.cell a c e).2.some
 have g := grow_same q t b
 refine ⟨S.base, fun x o' p => ?_, fun x c2 p => ?_, S.gens, S.os⟩
 ·have : x ≠ a := fun k => by have := (S.cell a c e).1; rw [<- k, p] at this; cases this
  exact (b.2 x this).trans (S.pin x o' p)
 ·unfold Hp.set at p
  split at p
  ·rename_i k; subst k; cases p; exact ⟨(S.cell _ _ e).1, r⟩
  ·rename_i k; exact ⟨(S.cell _ _ p).1, (S.cell _ _ p).2.mono g (b.2 x k)⟩
theorem St.grow_at (S : St X P H s) {a : Addr} {c : Cell} (e : H a = some c) {h' : Heap} (b : Heap.SameBut a s.heap h') : Grow s.heap h' := by
 obtain ⟨o, q, t⟩ := (S.cell a c e).2.some
 exact grow_same q t b
theorem St.upd (S : St X P H s) {a : Addr} {c c' : Cell} (e : H a = some c) (f : Obj -> Obj) (r : CR X.w (s.heap.update a f) c' a) {tk : Nat} : St X P (H.set a c') { s with heap := s.heap.update a f, toks := tk } :=
 S.same e (Heap.SameBut.update _ _ _) r
end
section
variable {X : Wd} {n : Nat} {fi : FI} {env : Env} {F : Frame} {H : Hp}
theorem wes_nil {Q : List V -> Hp -> Prop} (h : Q [] H) : WEs X n fi env F [] H Q := fun E A P s pos r S f =>
 spliced_nil ⟨[], H, rfl, S, Grow.refl _, h⟩
theorem wes_cons {e : Expr} {es : List Expr} {Q : List V -> Hp -> Prop} (h : WE X n fi env F e H (fun v H₁ => WEs X n fi env F es H₁ (fun vs H₂ => Q (v :: vs) H₂)))
  (he : starEach (e :: es) env = (false, eval e env) :: starEach es env) : WEs X n fi env F (e :: es) H Q := fun E A P s pos r S f => by
 rw [he]
 refine spliced_cons (wpAny_mono (h E A P s r S f) (fun v s₁ p0 => p0.casesOn fun V H₁ rv S₁ g₁ q => ?_) fun O O x => x)
 exact wpAny_mono (q E A P s₁ pos r S₁ (f.grow g₁)) (fun vs s₂ p0 => p0.casesOn fun Vs H₂ rs S₂ g₂ q₂ => ⟨V :: Vs, H₂, ⟨v, vs, rfl, rv.grow g₂, rs⟩, S₂, g₁.trans g₂, q₂⟩) fun O O x => x
theorem we_tuple {es : List Expr} {k pos} {Q : V -> Hp -> Prop} (h : WEs X n fi env F es H (fun vs H₁ => vs.length <= 10000000 /\ Q (.tup vs) H₁)) : WE X n fi env F (.Tuple es k pos) H Q := fun E A P s r S f =>
 wpAny_Tuple_spliced (wpAny_mono (h E A P s pos r S f) (fun vs s₁ p0 => p0.casesOn fun Vs H₁ rs S₁ g₁ q0 => q0.elim fun l q => ⟨rs.length ▸ le_line l,
  .tup Vs, H₁, ⟨_, vs, 0, rfl, Heap.get?_push_size _ rfl, rs.grow (Grow.push _ _)⟩, S₁.push _, g₁.trans (Grow.push _ _), q⟩) fun O O x => x)
theorem we_list {es : List Expr} {pos} {Q : V -> Hp -> Prop} (h : WEs X n fi env F es H (fun vs H₁ => vs.length <= 10000000 /\ ∀ a, H₁ a = none -> Q (.ref a) (H₁.set a (.list vs)))) : WE X n fi env F (.List es pos) H Q := fun E A P s r S f =>
 wpAny_List_spliced (wpAny_mono (h E A P s pos r S f) (fun vs s₁ p0 => p0.casesOn fun Vs H₁ rs S₁ g₁ q0 => q0.elim fun l q => ⟨rs.length ▸ le_line l,
  .ref _, _, vr_ref, S₁.alloc (CR.list (Heap.get?_push_size _ rfl) (rs.grow (Grow.push _ _))), g₁.trans (Grow.push _ _), q _ S₁.none_size.1⟩) fun O O x => x)
theorem tr_bool {b : Bool} {Q : Bool -> Hp -> Prop} (h : Q b H) : WTr X n (.bool b) H Q := fun A P s va r S e => by
 rw [show va = _ from e]; exact wpAny_truthy_bool ⟨H, S, Grow.refl _, h⟩
theorem wt_cmp {l op r pos} {Q : Bool -> Hp -> Prop} (h : WE X n fi env F l H (fun a H₁ => WE X n fi env F r H₁ (fun b H₂ => WCmp X n op a b H₂ (fun c H₃ => WTr X n c H₃ Q))))
  (hm : behindInMarks op r = false) : WT X n fi env F (.Compare l [op] [r] pos) H Q := fun E A P s r S f =>
 wpAny_isTrue_Compare1 (wpAny_mono (h E A P s r S f) (fun va s₁ p0 => p0.casesOn fun a H₁ ra S₁ g₁ q =>
  wpAny_mono (q E A P s₁ r S₁ (f.grow g₁)) (fun vb s₂ p0 => p0.casesOn fun b H₂ rb S₂ g₂ q₂ =>
   wpAny_mono (q₂ A P s₂ va vb r S₂ (ra.grow g₂) rb) (fun vc s₃ p0 => p0.casesOn fun c H₃ rc S₃ g₃ q₃ => q₃.use r S₃ rc ((g₁.trans g₂).trans g₃)) fun O O x => x) fun O O x => x) fun O O x => x) hm
theorem we_cmp {l op r pos} {Q : V -> Hp -> Prop} (h : WE X n fi env F l H (fun a H₁ => WE X n fi env F r H₁ (fun b H₂ => WCmp X n op a b H₂ Q)))
  (hm : behindInMarks op r = false) : WE X n fi env F (.Compare l [op] [r] pos) H Q := fun E A P s r S f =>
 wpAny_Compare1 (wpAny_mono (h E A P s r S f) (fun va s₁ p0 => p0.casesOn fun a H₁ ra S₁ g₁ q =>
  wpAny_mono (q E A P s₁ r S₁ (f.grow g₁)) (fun vb s₂ p0 => p0.casesOn fun b H₂ rb S₂ g₂ q₂ => q₂.use r S₂ (ra.grow g₂) rb (g₁.trans g₂)) fun O O x => x) fun O O x => x) hm
theorem wt_cmp2 {l op₁ op₂ r₁ r₂ pos} {Q : Bool -> Hp -> Prop} (h : WE X n fi env F l H (fun a H₁ => WE X n fi env F r₁ H₁ (fun b H₂ => WCmp X n op₁ a b H₂ (fun c H₃ => WTr X n c H₃ (fun t H₄ =>
   (t = true -> WE X n fi env F r₂ H₄ (fun d H₅ => WCmp X n op₂ b d H₅ (fun c' H₆ => WTr X n c' H₆ Q))) /\ (t = false -> Q false H₄))))))
  (hm : lastMarks [op₁, op₂] [r₁, r₂] = false) : WT X n fi env F (.Compare l [op₁, op₂] [r₁, r₂] pos) H Q := fun E A P s r S f => by
 refine isTrue_chain (wpAny_mono (h E A P s r S f) (fun va s₁ p0 => p0.casesOn fun a H₁ ra S₁ g₁ q => ?_) fun O O x => x) hm
 refine wpAny_bind (wpAny_holding (wpAny_mono (q E A P s₁ r S₁ (f.grow g₁)) (fun vb s₂ p0 => p0.casesOn fun b H₂ rb S₂ g₂ q₂ => ?_) fun O O x => x))
 refine wpAny_bind (wpAny_standAt (wpAny_bind (wpAny_holding (wpAny_mono (q₂ A P s₂ va vb r S₂ (ra.grow g₂) rb) (fun vc s₃ p0 => p0.casesOn fun c H₃ rc S₃ g₃ q₃ => ?_) fun O O x => x))))
 refine wpAny_bind (wpAny_release (wpAny_bind (wpAny_holding (wpAny_mono (q₃ A P s₃ vc r S₃ rc) (fun t s₄ p0 => p0.casesOn fun H₄ S₄ g₄ q₄ => ?_) fun O O x => x))))
 have g14 := ((g₁.trans g₂).trans g₃).trans g₄
 induction t with
 | false => exact wpAny_pure ⟨H₄, S₄, g14, q₄.2 rfl⟩
 | true =>
  rw [show evalEach [] env = [] from rfl]
  refine wpAny_bind (wpAny_holding (wpAny_mono (q₄.1 rfl E A P s₄ r S₄ (f.grow g14)) (fun vd s₅ p0 => p0.casesOn fun d H₅ rd S₅ g₅ q₅ => ?_) fun O O x => x))
  refine wpAny_bind (wpAny_standAt (wpAny_bind ?_))
  unfold operate
  refine wpAny_bind (wpAny_holding (wpAny_mono (q₅ A P s₅ vb vd r S₅ (((rb.grow g₃).grow g₄).grow g₅) rd) (fun ve s₆ p0 => p0.casesOn fun e' H₆ re S₆ g₆ q₆ => ?_) fun O O x => x))
  exact wpAny_bind (wpAny_release (wpAny_pure (wpAny_holding (q₆.use r S₆ re ((g14.trans g₅).trans g₆)))))
theorem wt_not {e pos} {Q : Bool -> Hp -> Prop} (h : WT X n fi env F e H (fun b H₁ => Q (!b) H₁)) : WT X n fi env F (.UnaryOp .Not e pos) H Q := fun E A P s r S f =>
 wpAny_isTrue_Not (wpAny_mono (h E A P s r S f) (fun b s₁ p0 => p0.casesOn fun H₁ S₁ g₁ q => ⟨H₁, S₁, g₁, q⟩) fun O O x => x)
noncomputable def WTs (X : Wd) (n : Nat) (fi : FI) (env : Env) (op : BoolOp) (F : Frame) (es : List Expr) (H : Hp) (Q : Bool -> Hp -> Prop) : Prop :=
 EnvOK X env fi -> ∀ A P s, Room n A -> St X P H s -> FrOK X fi P env F s.heap -> wpAny (MM X) A (allTrue op es env) (PB X P s.heap Q) noE s
theorem wt_bool {op es pos} {Q : Bool -> Hp -> Prop} (h : WTs X n fi env op F es H Q) : WT X n fi env F (.BoolOp op es pos) H Q := fun E A P s r S f => wpAny_isTrue_BoolOp (h E A P s r S f)
theorem wts_and_nil {Q : Bool -> Hp -> Prop} (h : Q true H) : WTs X n fi env .And F [] H Q := fun E A P s r S f => wpAny_allTrue_And_nil ⟨H, S, Grow.refl _, h⟩
theorem wts_or_nil {Q : Bool -> Hp -> Prop} (h : Q false H) : WTs X n fi env .Or F [] H Q := fun E A P s r S f => wpAny_allTrue_Or_nil ⟨H, S, Grow.refl _, h⟩
theorem wts_and {e es} {Q : Bool -> Hp -> Prop} (h : WT X n fi env F e H (fun b H₁ => (b = true -> WTs X n fi env .And F es H₁ Q) /\ (b = false -> Q false H₁))) : WTs X n fi env .And F (e :: es) H Q := fun E A P s r S f =>
 wpAny_allTrue_And_cons (wpAny_mono (h E A P s r S f) (fun b s₁ p0 => p0.casesOn fun H₁ S₁ g₁ q => by
  induction b with
  | true => exact wpAny_mono (q.1 rfl E A P s₁ r S₁ (f.grow g₁)) (fun O O x => x.grow g₁) fun O O x => x
  | false => exact ⟨H₁, S₁, g₁, q.2 rfl⟩) fun O O x => x)
theorem wts_or {e es} {Q : Bool -> Hp -> Prop} (h : WT X n fi env F e H (fun b H₁ => (b = false -> WTs X n fi env .Or F es H₁ Q) /\ (b = true -> Q true H₁))) : WTs X n fi env .Or F (e :: es) H Q := fun E A P s r S f =>
 wpAny_allTrue_Or_cons (wpAny_mono (h E A P s r S f) (fun b s₁ p0 => p0.casesOn fun H₁ S₁ g₁ q => by
  induction b with
  | false => exact wpAny_mono (q.1 rfl E A P s₁ r S₁ (f.grow g₁)) (fun O O x => x.grow g₁) fun O O x => x
  | true => exact ⟨H₁, S₁, g₁, q.2 rfl⟩) fun O O x => x)
theorem wt_val {e} {Q : Bool -> Hp -> Prop} (h : WE X n fi env F e H (fun v H₁ => WTr X n v H₁ Q)) (he : ∀ whole, isTrue e env whole = (do let v <- whole; standAt e.pos; holding [v] (truthy v))) : WT X n fi env F e H Q := fun E A P s r S f =>
 wpAny_isTrue_value (wpAny_mono (h E A P s r S f) (fun v s₁ p0 => p0.casesOn fun V H₁ rv S₁ g₁ q => q.use r S₁ rv g₁) fun O O x => x) (he _)
theorem we_if {t b o pos} {Q : V -> Hp -> Prop} (h : WT X n fi env F t H (fun c H₁ => (c = true -> WE X n fi env F b H₁ Q) /\ (c = false -> WE X n fi env F o H₁ Q))) : WE X n fi env F (.IfExp t b o pos) H Q := fun E A P s r S f =>
 PySem.wpAny_IfExp (wpAny_mono (h E A P s r S f) (fun c s₁ p0 => p0.casesOn fun H₁ S₁ g₁ q => by
  induction c with
  | true => exact (q.1 rfl).use E r S₁ (f.grow g₁) g₁
  | false => exact (q.2 rfl).use E r S₁ (f.grow g₁) g₁) fun O O x => x)
end
end
section
noncomputable def PSame (fi : FI) (env : Env) (P P' : Pin) : Prop := ∀ a, a ≠ env.locals -> (∀ x ∈ fi.C, ∀ c, env.cells.lookup x = some c -> a ≠ c) -> P' a = P a
theorem PSame.refl (fi : FI) (env : Env) (P : Pin) : PSame fi env P P := fun O O O => rfl
theorem PSame.trans {fi : FI} {env : Env} {P P' P'' : Pin} (a : PSame fi env P P') (b : PSame fi env P' P'') : PSame fi env P P'' := fun x h k => (b x h k).trans (a x h k)
inductive Fl where
 | next | brk | cont
 | ret (v : V)
noncomputable def FlR (h : Heap) : Fl -> Flow -> Prop
 | .next, f => f = .next
 | .brk, f => f = .brk
 | .cont, f => f = .cont
 | .ret V, f => ∃ v, f = .ret v /\ VR h V v
inductive PA (X : Wd) (fi : FI) (env : Env) (P : Pin) (h : Heap) (Q : Frame -> Hp -> Prop) (u : Unit) (s' : Shared) : Prop
 | i (F' : Frame) (H' : Hp) (P' : Pin) (p : PSame fi env P P') (S : St X P' H' s') (f : FrOK X fi P' env F' s'.heap) (g : Grow h s'.heap) (q : Q F' H')
inductive PS (X : Wd) (fi : FI) (env : Env) (P : Pin) (h : Heap) (Q : Fl -> Frame -> Hp -> Prop) (fl : Flow) (s' : Shared) : Prop
 | i (f' : Fl) (F' : Frame) (H' : Hp) (P' : Pin) (rf : FlR s'.heap f' fl) (p : PSame fi env P P') (S : St X P' H' s') (f : FrOK X fi P' env F' s'.heap) (g : Grow h s'.heap) (q : Q f' F' H')
theorem PS.trans {X : Wd} {fi : FI} {env : Env} {P P₁ : Pin} {h h₁ : Heap} {Q : Fl -> Frame -> Hp -> Prop} {f : Flow} {s' : Shared} (p : PSame fi env P P₁) (g : Grow h h₁) (x : PS X fi env P₁ h₁ Q f s') : PS X fi env P h Q f s' :=
 x.rec fun f' F' H' P' a b c d e q => ⟨f', F', H', P', a, p.trans b, c, d, g.trans e, q⟩
theorem PA.trans {X : Wd} {fi : FI} {env : Env} {P P₁ : Pin} {h h₁ : Heap} {Q : Frame -> Hp -> Prop} {u : Unit} {s' : Shared} (p : PSame fi env P P₁) (g : Grow h h₁) (x : PA X fi env P₁ h₁ Q u s') : PA X fi env P h Q u s' :=
 x.rec fun F' H' P' b c d e q => ⟨F', H', P', p.trans b, c, d, g.trans e, q⟩
section
variable (X : Wd) (n : Nat) (fi : FI) (env : Env)
noncomputable def WA (F : Frame) (t : Expr) (v : V) (H : Hp) (Q : Frame -> Hp -> Prop) : Prop :=
 EnvOK X env fi -> ∀ A P s u, Room n A -> St X P H s -> FrOK X fi P env F s.heap -> VR s.heap v u -> wpAny (MM X) A (assign t env u) (PA X fi env P s.heap Q) noE s
noncomputable def WAs (F : Frame) (ts : List Expr) (vs : List V) (H : Hp) (Q : Frame -> Hp -> Prop) : Prop :=
 EnvOK X env fi -> ∀ A P s us, Room n A -> St X P H s -> FrOK X fi P env F s.heap -> VRs s.heap vs us -> wpAny (MM X) A (assignInOrder ((assignEach ts env).map (·.2)) us) (PA X fi env P s.heap Q) noE s
noncomputable def WX (F : Frame) (st : Stmt) (H : Hp) (Q : Fl -> Frame -> Hp -> Prop) : Prop :=
 EnvOK X env fi -> ∀ A P s, Room n A -> St X P H s -> FrOK X fi P env F s.heap -> wpAny (MM X) A (exec st env) (PS X fi env P s.heap Q) noE s
noncomputable def WS (F : Frame) (ss : List Stmt) (H : Hp) (Q : Fl -> Frame -> Hp -> Prop) : Prop :=
 EnvOK X env fi -> ∀ A P s, Room n A -> St X P H s -> FrOK X fi P env F s.heap -> wpAny (MM X) A (execs ss env) (PS X fi env P s.heap Q) noE s
noncomputable def WN (F : Frame) (x : Str) (v : V) (H : Hp) (Q : Frame -> Hp -> Prop) : Prop :=
 EnvOK X env fi -> ∀ A P s u, Room n A -> St X P H s -> FrOK X fi P env F s.heap -> VR s.heap v u -> wpAny (MM X) A (storeName env x u) (PA X fi env P s.heap Q) noE s
end
section
variable {X : Wd} {n : Nat} {fi : FI} {env : Env} {F : Frame} {H : Hp}
theorem grow_of {h h' : Heap} {a : Addr} {o : Obj} (e : h.get? a = some o) (t : notTup o) (b : Heap.SameBut a h h') : Grow h h' := grow_same e t b
theorem EnvOK.unGlob (E : EnvOK X env fi) : (env.scope.kind == .class || (env.scope.kind == .module && env.locals != env.globals)) = false := by rw [E.kind]; rfl
theorem wn_loc {x v L'} {Q : Frame -> Hp -> Prop} (p : Put F.L x v L') (h : Q ⟨L', F.C⟩ H) : WN X n fi env F x v H Q := fun E A P s u r S f ru => by
 refine cps fun G0 z0 => ?_
 obtain ⟨o, m, a, b, c⟩ := f.loc
 obtain ⟨es, ep, hd, hk, hm⟩ := id b
 obtain ⟨k1, _⟩ := E.ln x (f.nL ▸ p.has)
 refine z0 ?_
 clear z0
 refine wpAny_storeName_local k1 (b.ns (S.pin _ _ a)) (fun h' hn hs => ?_) E.unGlob
 refine cps fun G0 z0 => ?_
 obtain ⟨o', es', ep', e1, e2, e3, e4⟩ := hn
 refine z0 ?_
 clear z0
 have g : Grow s.heap h' := grow_of (S.pin _ _ a) (fun xs m' q => by rw [q] at hd; cases hd) hs
 refine ⟨⟨L', F.C⟩, H, fun y => if y = env.locals then some o' else P y, fun y hy O => by simp [hy], ⟨fun y oy ey => ?_, fun y oy ey => ?_, fun y cy ey => ?_, S.gens, S.os⟩,
  ⟨p.names.trans f.nL, f.nC, f.fresh, ⟨o', _, by simp, ⟨es', ep', e2, e3, e4⟩, fun q hq V hV => ?_⟩, fun q hq => ?_, f.inj⟩, g, h⟩
 ·have : y ≠ env.locals := fun k => by have := f.fresh; rw [<- k, ey] at this; cases this
  simp [this, S.base _ _ ey]
 ·skip
  split at ey
  ·rename_i k; subst k; cases ey; exact e1
  ·rename_i k; exact (hs.2 y k).trans (S.pin _ _ ey)
 ·have k : y ≠ env.locals := fun k => by have := (S.cell _ _ ey).1; rw [k, a] at this; cases this
  exact ⟨by simp [k, (S.cell _ _ ey).1], (S.cell _ _ ey).2.mono g (hs.2 y k)⟩
 ·rcases p.mem (by rw [f.nL]; exact E.nd) q hq with ⟨k1, k2⟩ | ⟨k1, k2⟩
  ·rw [k2] at hV; cases hV; exact ⟨u, by simp [k1], ru.grow g⟩
  ·obtain ⟨w, h1, h2⟩ := c q k1 V hV; exact ⟨w, by simp [k2, h1], h2.grow g⟩
 ·refine cps fun G0 z0 => ?_
  obtain ⟨c', o2, u', h1, h2, h3, h4, h5⟩ := f.cel q hq
  refine z0 ?_
  clear z0
  have k : c' ≠ env.locals := fun k => by rw [k, a] at h2; cases h2; rw [hd] at h4; cases h4
  exact ⟨c', o2, u', h1, by simp [k, h2], h3, h4, fun V hV => let ⟨w, z1, z2⟩ := h5 V hV; ⟨w, z1, z2.grow g⟩⟩
theorem wn_cel {x v L'} {Q : Frame -> Hp -> Prop} (hc : x ∈ fi.C) (p : Put F.C x v L') (h : Q ⟨F.L, L'⟩ H) : WN X n fi env F x v H Q := fun E A P s u r S f ru => by
 refine cps fun G0 z0 => ?_
 obtain ⟨o, m, a, b, c⟩ := f.loc
 obtain ⟨es, ep, hd, hk, hm⟩ := id b
 obtain ⟨q0, hq0, hq1⟩ := List.mem_map.mp p.has
 obtain ⟨cc, oc, uc, h1, h2, h3, h4, h5⟩ := f.cel q0 hq0
 refine z0 ?_
 clear z0
 rw [hq1] at h1
 refine wpAny_storeName_cell E.kind (E.cl x hc) h1 ⟨oc, S.pin _ _ h2, h4⟩ (fun h' hn hs => ?_)
 obtain ⟨o', e1, e2⟩ := hn
 have g : Grow s.heap h' := grow_of (S.pin _ _ h2) (fun xs m' q => by rw [q] at h4; cases h4) hs
 have kl : env.locals ≠ cc := fun k => by rw [<- k, a] at h2; cases h2; rw [hd] at h4; cases h4
 refine ⟨⟨F.L, L'⟩, H, fun y => if y = cc then some o' else P y, fun y O hy => by simp [hy x hc cc h1], ⟨fun y oy ey => ?_, fun y oy ey => ?_, fun y cy ey => ?_, S.gens, S.os⟩,
  ⟨f.nL, p.names.trans f.nC, f.fresh, ⟨o, m, by simp [kl, a], b, fun q hq V hV => (c q hq V hV).elim fun w q1 => q1.elim fun z1 z2 => ⟨w, z1, z2.grow g⟩⟩, fun q hq => ?_, fun q hq q' hq' => ?_⟩, g, h⟩
 ·have : y ≠ cc := fun k => by rw [<- k, ey] at h3; cases h3
  simp [this, S.base _ _ ey]
 ·skip
  split at ey
  ·rename_i k; subst k; cases ey; exact e1
  ·rename_i k; exact (hs.2 y k).trans (S.pin _ _ ey)
 ·have k : y ≠ cc := fun k => by have := (S.cell _ _ ey).1; rw [k, h2] at this; cases this
  exact ⟨by simp [k, (S.cell _ _ ey).1], (S.cell _ _ ey).2.mono g (hs.2 y k)⟩
 ·have nd : (F.C.map (·.1)).Nodup := by rw [f.nC]; exact E.ndC
  rcases p.mem nd q hq with ⟨k1, k2⟩ | ⟨k1, k2⟩
  ·exact ⟨cc, o', some u, by rw [k1]; exact h1, by simp, h3, e2, fun V hV => by rw [k2] at hV; cases hV; exact ⟨u, rfl, ru.grow g⟩⟩
  ·refine cps fun G0 z0 => ?_
   obtain ⟨c', o2, u', z1, z2, z3, z4, z5⟩ := f.cel q k1
   refine z0 ?_
   clear z0
   have k : c' ≠ cc := fun k => k2 ((f.inj q k1 q0 hq0 cc (k ▸ z1) (hq1 ▸ h1)).trans hq1)
   exact ⟨c', o2, u', z1, by simp [k, z2], z3, z4, fun V hV => let ⟨w, y1, y2⟩ := z5 V hV; ⟨w, y1, y2.grow g⟩⟩
 ·have nm : L'.map (·.1) = F.C.map (·.1) := p.names
  have m1 : ∀ q ∈ L', ∃ q2 ∈ F.C, q2.1 = q.1 := fun q hq => by
   have : q.1 ∈ F.C.map (·.1) := nm ▸ List.mem_map_of_mem (f := (·.1)) hq
   obtain ⟨q2, z1, z2⟩ := List.mem_map.mp this; exact ⟨q2, z1, z2⟩
  refine cps fun G0 z0 => ?_
  obtain ⟨q2, y1, y2⟩ := m1 q hq
  obtain ⟨q3, y3, y4⟩ := m1 q' hq'
  refine z0 ?_
  clear z0
  intro c0 z1 z2
  rw [<- y2, <- y4]
  exact f.inj q2 y1 q3 y3 c0 (by rw [y2]; exact z1) (by rw [y4]; exact z2)
theorem wa_name {x pos v} {Q : Frame -> Hp -> Prop} (h : WN X n fi env F x v H Q) : WA X n fi env F (.Name x pos) v H Q := fun E A P s u r S f ru =>
 wpAny_assign_Name (h E A P s u r S f ru)
theorem was_nil {vs : List V} {Q : Frame -> Hp -> Prop} (h : Q F H) : WAs X n fi env F [] vs H Q := fun E A P s us r S f ru => by
 show wpAny _ _ (assignInOrder [] us) _ _ _
 induction us <;> exact wpAny_pure ⟨F, H, P, .refl _ _ _, S, f, Grow.refl _, h⟩
theorem was_cons {t : Expr} {ts : List Expr} {v : V} {vs : List V} {Q : Frame -> Hp -> Prop} (h : WA X n fi env F t v H (fun F' H' => WAs X n fi env F' ts vs H' Q))
  (he : assignEach (t :: ts) env = (false, assign t env) :: assignEach ts env) : WAs X n fi env F (t :: ts) (v :: vs) H Q := fun E A P s us r S f ru => by
 obtain ⟨x, us', rfl, rv, rvs⟩ := ru
 rw [he, List.map_cons]
 refine wpAny_assignInOrder_more (wpAny_mono (h E A P s x r S f rv) (fun O s₁ p0 => p0.casesOn fun F' H' P' p S₁ f₁ g₁ q => ?_) fun O O x => x)
 exact wpAny_mono (q E A P' s₁ us' r S₁ f₁ (rvs.grow g₁)) (fun O O x => x.trans p g₁) fun O O x => x
theorem get_ext {h h' : Heap} {b : Addr} {o : Obj} (x : Heap.ExtBut h.objs.size h h') (e : h.get? b = some o) : h'.get? b = some o := x b o (Nat.ne_of_lt (Heap.lt_size e)) e
theorem St.ext {P : Pin} {s : Shared} (S : St X P H s) {h' : Heap} (x : Heap.ExtBut s.heap.objs.size s.heap h') : St X P H { s with heap := h' } /\ Grow s.heap h' := by
 have g : Grow s.heap h' := fun a xs m e => get_ext x e
 refine ⟨⟨S.base, fun a o e => get_ext x (S.pin a o e), fun a c e => ⟨(S.cell a c e).1, ?_⟩, S.gens, S.os⟩, g⟩
 obtain ⟨o, q, _⟩ := (S.cell a c e).2.some
 exact (S.cell a c e).2.mono g ((get_ext x q).trans q.symm)
theorem wa_tup {ts : List Expr} {k pos} {vs : List V} {Q : Frame -> Hp -> Prop} (hn : ts.length = vs.length) (h : WAs X n fi env F ts vs H Q)
  (hl : ∀ env, (assignEach ts env).length = ts.length /\ (assignEach ts env).findIdx? (·.1) = none) : WA X n fi env F (.Tuple ts k pos) (.tup vs) H Q := fun E A P s u r S f ru => by
 obtain ⟨a, xs, m, rfl, ho, rs⟩ := ru
 refine PySem.wpAny_assign_Tuple r.hd ⟨_, ho, rfl, m, rfl⟩ ((hl env).1.trans (hn.trans (by rw [List.size_toArray]; exact rs.length.symm))) (hl env).2 (fun h' hx => ?_)
 obtain ⟨S₁, g₁⟩ := S.ext hx
 exact wpAny_mono (h E A P _ _ r S₁ (f.grow g₁) (rs.grow g₁)) (fun O O x => x.trans (.refl _ _ _) g₁) fun O O x => x
theorem ws_nil {Q : Fl -> Frame -> Hp -> Prop} (h : Q .next F H) : WS X n fi env F [] H Q := fun E A P s r S f => wpAny_execs_nil ⟨.next, F, H, P, rfl, .refl _ _ _, S, f, Grow.refl _, h⟩
theorem ws_cons {st : Stmt} {ss : List Stmt} {Q : Fl -> Frame -> Hp -> Prop} (h : WX X n fi env F st H (fun fl F' H' => match fl with | .next => WS X n fi env F' ss H' Q | fl => Q fl F' H')) : WS X n fi env F (st :: ss) H Q := fun E A P s r S f =>
 wpAny_execs_cons (wpAny_mono (h E A P s r S f) (fun fl s₁ p0 => p0.casesOn fun f' F' H' P' rf p S₁ f₁ g₁ q => by
  induction f' with
  | next => rw [show fl = _ from rf]; exact wpAny_mono (q E A P' s₁ r S₁ f₁) (fun O O x => x.trans p g₁) fun O O x => x
  | brk => rw [show fl = _ from rf]; exact ⟨.brk, F', H', P', rfl, p, S₁, f₁, g₁, q⟩
  | cont => rw [show fl = _ from rf]; exact ⟨.cont, F', H', P', rfl, p, S₁, f₁, g₁, q⟩
  | ret V => obtain ⟨v, rfl, rv⟩ := rf; exact ⟨.ret V, F', H', P', ⟨v, rfl, rv⟩, p, S₁, f₁, g₁, q⟩) fun O O x => x)
theorem wx_if {t b o pos} {Q : Fl -> Frame -> Hp -> Prop} (h : WT X n fi env F t H (fun c H₁ => (c = true -> WS X n fi env F b H₁ Q) /\ (c = false -> WS X n fi env F o H₁ Q))) : WX X n fi env F (.If t b o pos) H Q := fun E A P s r S f =>
 wpAny_If (wpAny_mono (h E A P s r S f) (fun c s₁ p0 => p0.casesOn fun H₁ S₁ g₁ q => by
  induction c with
  | true => exact wpAny_mono (q.1 rfl E A P s₁ r S₁ (f.grow g₁)) (fun O O x => x.trans (.refl _ _ _) g₁) fun O O x => x
  | false => exact wpAny_mono (q.2 rfl E A P s₁ r S₁ (f.grow g₁)) (fun O O x => x.trans (.refl _ _ _) g₁) fun O O x => x) fun O O x => x)
theorem wx_ret {e pos} {Q : Fl -> Frame -> Hp -> Prop} (h : WE X n fi env F e H (fun v H₁ => Q (.ret v) F H₁)) : WX X n fi env F (.Return (some e) pos) H Q := fun E A P s r S f =>
 wpAny_Return_some (wpAny_mono (h E A P s r S f) (fun v s₁ p0 => p0.casesOn fun V H₁ rv S₁ g₁ q => ⟨.ret V, F, H₁, P, ⟨v, rfl, rv⟩, .refl _ _ _, S₁, f.grow g₁, g₁, q⟩) fun O O x => x)
theorem wx_ret0 {pos} {Q : Fl -> Frame -> Hp -> Prop} (h : Q (.ret .none) F H) : WX X n fi env F (.Return none pos) H Q := fun E A P s r S f =>
 wpAny_Return_none ⟨.ret .none, F, H, P, ⟨_, rfl, vr_none⟩, .refl _ _ _, S, f, Grow.refl _, h⟩
theorem wx_pass {pos} {Q : Fl -> Frame -> Hp -> Prop} (h : Q .next F H) : WX X n fi env F (.Pass pos) H Q := fun E A P s r S f =>
 wpAny_Pass ⟨.next, F, H, P, rfl, .refl _ _ _, S, f, Grow.refl _, h⟩
theorem wx_expr {e pos} {Q : Fl -> Frame -> Hp -> Prop} (h : WE X n fi env F e H (fun v H₁ => v = .none /\ Q .next F H₁)) (hs : swapsWith e none pos.line env = pure false) : WX X n fi env F (.Expr e pos) H Q := fun E A P s r S f =>
 wpAny_Expr (wpAny_mono (h E A P s r S f) (fun v s₁ p0 => p0.casesOn fun V H₁ rv S₁ g₁ q0 => q0.elim fun e q => by
  subst e; rw [show v = _ from rv]; exact ⟨.next, F, H₁, P, rfl, .refl _ _ _, S₁, f.grow g₁, g₁, q⟩) fun O O x => x) (by unfold interactive; rw [E.kind]; rfl) hs
theorem exec_assign1 {env : Env} {t value pos} (hs : swapsWithSole [t] value pos.line env = pure false) (hw : swappedStores [t] value env = pure none) (he : (assignEach [t] env).map (·.2) = [assign t env]) :
  exec (.Assign [t] value pos) env = (do standAt pos; let v <- eval value env; assign t env v; pure .next) := by
 show (do standAt pos; if <- swapsWithSole [t] value pos.line env then _ else _) = _
 rw [hs, he]
 show (do standAt pos; let v <- eval value env; assignStores env v (<- swappedStores [t] value env) [assign t env]) = _
 rw [hw]; rfl
theorem wx_assign {t value pos} {Q : Fl -> Frame -> Hp -> Prop} (h : WE X n fi env F value H (fun v H₁ => WA X n fi env F t v H₁ (fun F' H' => Q .next F' H')))
  (hs : swapsWithSole [t] value pos.line env = pure false) (hw : EnvOK X env fi -> swappedStores [t] value env = pure none) (he : (assignEach [t] env).map (·.2) = [assign t env]) : WX X n fi env F (.Assign [t] value pos) H Q := fun E A P s r S f => by
 rw [exec_assign1 hs (hw E) he]
 refine wpAny_bind (wpAny_standAt (wpAny_bind (wpAny_mono (h E A P s r S f) (fun v s₁ p0 => p0.casesOn fun V H₁ rv S₁ g₁ q => ?_) fun O O x => x)))
 exact wpAny_bind (wpAny_mono (q E A P s₁ v r S₁ (f.grow g₁) rv) (fun O s₂ p0 => p0.casesOn fun F' H' P' p S₂ f₂ g₂ q₂ => wpAny_pure ⟨.next, F', H', P', rfl, p, S₂, f₂, g₁.trans g₂, q₂⟩) fun O O x => x)
end
end
section
section
variable (X : Wd) (n : Nat)
noncomputable def WC (f : Value) (vs : List V) (H : Hp) (Q : V -> Hp -> Prop) : Prop :=
 ∀ A P s vals, Room n A -> St X P H s -> VRs s.heap vs vals -> wpAny (MM X) A (call f vals) (PV X P s.heap Q) noE s
noncomputable def CR1 (R : Value -> Shared -> Prop) (r : Result) (s' : Shared) : Prop := match r with | .ok (.ret v) => R v s' | _ => False
noncomputable def WD (f : Value) (vs : List V) (H : Hp) (Q : V -> Hp -> Prop) : Prop :=
 ∀ A P s vals, Room n A -> St X P H s -> VRs s.heap vs vals -> codeAny (MM X) A (.call f ⟨vals, []⟩) (CR1 (PV X P s.heap Q)) s
end
section
variable {X : Wd} {n : Nat} {fi : FI} {env : Env} {F : Frame} {H : Hp} {Q : V -> Hp -> Prop}
theorem WD.wc {f : Value} {vs : List V} (h : WD X n f vs H Q) : WC X n f vs H Q := fun A P s vals r S rv => wpAny_call (codeAny_mono (h A P s vals r S rv) fun r s' q => by
 rcases r with e | (v | _ | _ | _) <;> exact q)
theorem WC.use {f : Value} {vs : List V} (h : WC X n f vs H Q) {A : Around} {P : Pin} {s : Shared} {h0 : Heap} {vals : List Value} (r : Room n A) (S : St X P H s) (rv : VRs s.heap vs vals) (g : Grow h0 s.heap) :
  wpAny (MM X) A (call f vals) (PV X P h0 Q) noE s := wpAny_mono (h A P s vals r S rv) (fun O O x => x.grow g) fun O O x => x
theorem WC.mono {f : Value} {vs : List V} {Q' : V -> Hp -> Prop} (h : WC X n f vs H Q') (k : ∀ v H', Q' v H' -> Q v H') : WC X n f vs H Q := fun A P s vals r S rv =>
 wpAny_mono (h A P s vals r S rv) (fun O O p0 => p0.casesOn fun V H' a b c q => ⟨V, H', a, b, c, k _ _ q⟩) fun O O x => x
theorem we_call {x pos pos' e es} {f : Value} (g : GetG fi.G x f) (hk : keepIn X.K f = true) (h : WEs X n fi env F (e :: es) H (fun vs H₁ => WC X n f vs H₁ Q))
  (he : ∀ env, starEach (e :: es) env = (false, eval e env) :: starEach es env) (hp : ∀ env pos, (backTo pos (starEach es env)).any (·.1) = false) :
  WE X n fi env F (.Call (.Name x pos) (e :: es) [] pos') H Q := fun E A P s r S f' => by
 show wpAny _ _ (do callWith pos' (<- eval (.Name x pos) env) [] (backTo pos' (starEach (e :: es) env)) (backToKw pos' (keywordEach [] env))) _ _ _
 refine wpAny_bind (glob_tree g E S ?_)
 refine callWith_K (K := X.K) S.K hk (wpAny_mono (h E A P s pos' r S f') (fun vs s₁ p0 => p0.casesOn fun Vs H₁ rs S₁ g₁ q => ⟨S₁.K, q.use r S₁ rs g₁⟩) fun O O x => x) (he env) (hp env pos')
theorem we_call0 {x pos pos'} {f : Value} (g : GetG fi.G x f) (hk : keepIn X.K f = true) (h : WC X n f [] H Q) : WE X n fi env F (.Call (.Name x pos) [] [] pos') H Q := fun E A P s r S f' => by
 show wpAny _ _ (do callWith pos' (<- eval (.Name x pos) env) [] (backTo pos' (starEach [] env)) (backToKw pos' (keywordEach [] env))) _ _ _
 refine wpAny_bind (glob_tree g E S ?_)
 exact callWith_K0 S.K hk (h.use r S rfl (Grow.refl _))
theorem we_bcall {x pos pos' e es} {id : String} (g : GetG fi.G x (.builtin id)) (h : WEs X n fi env F (e :: es) H (fun vs H₁ => WC X n (.builtin id) vs H₁ Q))
  (he : ∀ env, starEach (e :: es) env = (false, eval e env) :: starEach es env) (hp : ∀ env pos, (backTo pos (starEach (e :: es) env)).any (·.1) = false) :
  WE X n fi env F (.Call (.Name x pos) (e :: es) [] pos') H Q := fun E A P s r S f' => by
 show wpAny _ _ (do callWith pos' (<- eval (.Name x pos) env) [] (backTo pos' (starEach (e :: es) env)) (backToKw pos' (keywordEach [] env))) _ _ _
 refine wpAny_bind (glob_tree g E S ?_)
 refine callWith_builtin (hp env pos') ?_
 have hh := h E A P s pos' r S f'
 rw [he] at hh ⊢
 exact evalArgs_plain (wpAny_mono hh (fun vs s₁ p0 => p0.casesOn fun Vs H₁ rs S₁ g₁ q => q.use r S₁ rs g₁) fun O O x => x)
theorem mem_of_lookup {α : Type} {l : List (Str × α)} {x : Str} {v : α} (h : l.lookup x = some v) : (x, v) ∈ l := by
 induction l with
 | nil => cases h
 | cons p r ih =>
  rw [List.lookup_cons] at h
  split at h
  ·rename_i q; cases h; rw [eq_of_beq q]; exact .head _
  ·exact .tail _ (ih h)
theorem cellsFrom_acc {x : Str} {l : List (Str × NameKind)} : ∀ {k : Nat} {acc : List (Str × Addr)}, (acc.lookup x).isSome = true -> ((cellsFrom k l acc).lookup x).isSome = true := by
 induction l with
 | nil => exact id
 | cons p r ih =>
  intro k acc h
  dsimp only [cellsFrom]
  split
  ·refine ih ?_
   rw [List.lookup_cons]; split
   ·rfl
   ·exact h
  ·exact ih h
theorem cellsFrom_has {x : Str} {l : List (Str × NameKind)} : ∀ {k : Nat} {acc : List (Str × Addr)}, l.lookup x = some .cell -> ((cellsFrom k l acc).lookup x).isSome = true := by
 induction l with
 | nil => exact fun h => none_no h
 | cons p r ih =>
  intro k acc h
  dsimp only [cellsFrom]
  rw [List.lookup_cons] at h
  split at h
  ·rename_i q; rw [if_pos ((Option.some.inj h).symm ▸ (rfl : (NameKind.cell == NameKind.cell) = true))]
   exact cellsFrom_acc (by rw [List.lookup_cons, q]; rfl)
  ·split <;> exact ih h
theorem bindL_ne {kd : Str -> Option NameKind} {x : Str} {b : List (Str × Value)} : ∀ {m : Str -> Option Value}, x ∉ b.map (·.1) -> bindL kd b m x = m x := by
 induction b with
 | nil => exact fun O => rfl
 | cons p b ih =>
  intro m h
  have h := not_or.mp fun k => h (List.mem_cons.mpr k)
  refine (ih h.2).trans ?_
  split
  ·exact if_neg h.1
  ·rfl
theorem bindC_ne {kd : Str -> Option NameKind} {x : Str} {b : List (Str × Value)} : ∀ {m : Str -> Option Value}, x ∉ b.map (·.1) -> bindC kd b m x = m x := by
 induction b with
 | nil => exact fun O => rfl
 | cons p b ih =>
  intro m h
  have h := not_or.mp fun k => h (List.mem_cons.mpr k)
  refine (ih h.2).trans ?_
  split
  ·rfl
  ·exact if_neg h.1
theorem zip_names {α : Type} {x : Str} {ps : List Str} : ∀ {vs : List α}, x ∈ (ps.zip vs).map (·.1) -> x ∈ ps := by
 induction ps with
 | nil => exact fun h => nil_no h
 | cons p ps ih =>
  intro vs h
  cases vs with
  | nil => cases h
  | cons v vs => exact (List.mem_cons.mp h).elim (fun e => e ▸ .head _) fun h => .tail _ (ih h)
theorem bindL_at {hp : Heap} {kd : Str -> Option NameKind} {x : Str} {W : V} (hk : kd x = some .local) {ps : List Str} : ∀ {vs : List V} {vals : List Value} {m : Str -> Option Value}, ps.Nodup -> VRs hp vs vals -> (ps.zip vs).lookup x = some W ->
  ∃ v, bindL kd (ps.zip vals) m x = some v /\ VR hp W v := by
 induction ps with
 | nil => exact fun O O h => none_no h
 | cons p ps ih =>
  intro vs vals m nd q h
  cases vs with
  | nil => cases h
  | cons v vs =>
   refine cps fun G z => ?_
   obtain ⟨u, us, rfl, ru, rus⟩ := q
   rw [List.nodup_cons] at nd
   refine z ?_
   clear z
   simp only [List.zip_cons_cons, List.lookup_cons] at h
   cases q : x == p with
   | true =>
    rw [q] at h
    cases h
    have q' := eq_of_beq q
    subst q'
    exact ⟨u, (bindL_ne fun k => nd.1 (zip_names k)).trans (by rw [if_pos hk]; exact if_pos rfl), ru⟩
   | false => rw [q] at h; exact ih nd.2 rus h
theorem bindC_at {hp : Heap} {kd : Str -> Option NameKind} {x : Str} {W : V} (hk : kd x ≠ some .local) {ps : List Str} : ∀ {vs : List V} {vals : List Value} {m : Str -> Option Value}, ps.Nodup -> VRs hp vs vals -> (ps.zip vs).lookup x = some W ->
  ∃ v, bindC kd (ps.zip vals) m x = some v /\ VR hp W v := by
 induction ps with
 | nil => exact fun O O h => none_no h
 | cons p ps ih =>
  intro vs vals m nd q h
  cases vs with
  | nil => cases h
  | cons v vs =>
   refine cps fun G z => ?_
   obtain ⟨u, us, rfl, ru, rus⟩ := q
   rw [List.nodup_cons] at nd
   refine z ?_
   clear z
   simp only [List.zip_cons_cons, List.lookup_cons] at h
   cases q : x == p with
   | true =>
    rw [q] at h
    cases h
    have q' := eq_of_beq q
    subst q'
    exact ⟨u, (bindC_ne fun k => nd.1 (zip_names k)).trans (by rw [if_neg hk]; exact if_pos rfl), ru⟩
   | false => rw [q] at h; exact ih nd.2 rus h
noncomputable def dbg : Str := "__debug__"
noncomputable def cdc : Str := "__classdict__"
noncomputable def scChk (sc : Scope) (fi : FI) (ps : List Str) : Bool :=
 decide (sc.kind = .function) && !sc.isCoroutine && !sc.isGenerator &&
 (fi.G.all fun p => decide (sc.names.lookup p.1 = some .globalImplicit) && !(p.1 == dbg)) &&
 (fi.L.all fun x => decide (sc.names.lookup x = some .local) && !(x == dbg)) && decide fi.L.Nodup && decide ((fi.C ++ fi.R).Nodup) &&
 (fi.C.all fun x => decide (sc.names.lookup x = some .cell) && !(x == dbg) && !(x == cdc)) && fi.R.isEmpty &&
 (ps.all fun x => fi.L.contains x || fi.C.contains x) && decide ps.Nodup
theorem scChk_env {sc : Scope} {fi : FI} {ps : List Str} (h : scChk sc fi ps = true) (hG : ∀ p ∈ fi.G, GlobV X p.1 p.2) {env : Env} (e : env.scope = sc) (e1 : env.globals = mainGlobals) (e2 : env.builtins = builtinsNs) : EnvOK X env fi := by
 unfold scChk at h
 simp only [Bool.and_eq_true, List.all_eq_true, decide_eq_true_eq, Bool.not_eq_true', Bool.or_eq_true, List.isEmpty_iff] at h
 obtain ⟨⟨⟨⟨⟨⟨⟨⟨⟨⟨h1, h2⟩, h3⟩, h4⟩, h5⟩, h6⟩, h7⟩, h8⟩, h9⟩, h10⟩, h11⟩ := h
 refine ⟨by rw [e]; exact h1, e1, e2, fun p hp => ⟨by unfold Env.kindOf; rw [e]; exact (h4 p hp).1, (h4 p hp).2, hG p hp⟩, fun x hx => ⟨by unfold Env.kindOf; rw [e]; exact (h5 x hx).1, (h5 x hx).2⟩, h6, h7,
  fun x hx => by unfold Env.kindOf; rw [e]; exact (h8 x hx).1.1, fun x hx => ?_⟩
 rw [h9, List.append_nil] at hx
 exact ⟨.inl (by unfold Env.kindOf; rw [e]; exact (h8 x hx).1.1), (h8 x hx).1.2, (h8 x hx).2⟩
theorem St.drop {P P' : Pin} {s : Shared} (S : St X P' H s) (B : ∀ a o, X.B.get? a = some o -> P a = some o) (h : ∀ a o, P a = some o -> P' a = some o) : St X P H s :=
 ⟨B, fun a o e => S.pin a o (h a o e), fun a c e => ⟨(by
  cases q : P a with
  | none => rfl
  | some o => have := (S.cell a c e).1; rw [h a o q] at this; exact absurd this (by simp)), (S.cell a c e).2⟩, S.gens, S.os⟩
noncomputable def QF (Q : V -> Hp -> Prop) : Fl -> Frame -> Hp -> Prop := fun fl O H' => match fl with | .ret v => Q v H' | .next => Q .none H' | _ => False
theorem codeAny_call_cellsB {prog : Program} {w : World} {A : Around} {s : Shared} {R : Result -> Shared -> Prop} {a : Addr} {o : Obj} {fd : FuncData} {body : List Stmt} {vals : List Value} {binds : List (Str × Value)}
  (hroom : A.depth < recursionLimit) (ho : s.heap.get? a = some o) (hdata : o.data = .func fd) (hlim : s.heap.NoLimit) (hcd : s.heap.CodeRec fd.code fd.qualname)
  (hbody : fd.body = .stmts body) (hbind : BindsTo s fd ⟨vals, []⟩ binds) (hclo : fd.closure = [])
  (hkind : ∀ x ∈ binds, fd.scope.names.lookup x.1 = some .local \/ (fd.scope.names.lookup x.1 = some .cell /\ ((cellsFrom (s.heap.objs.size + 1) fd.scope.names []).lookup x.1).isSome = true))
  (h : ∀ s₁, InCallC s (callEnvC fd s.heap.objs.size a).locals (bindL (callEnvC fd s.heap.objs.size a).kindOf binds fun O => none) (callEnvC fd s.heap.objs.size a).cells
    (bindC (callEnvC fd s.heap.objs.size a).kindOf binds fun O => none) s₁ ->
   wpAny (model prog w) (A.deeper (callEnvC fd s.heap.objs.size a)) (execs body (callEnvC fd s.heap.objs.size a)) (fun f s' => R (.ok (.ret (match f with | .ret v => v | _ => .none))) s')
    (fun e s' => wpAny (model prog w) (A.deeper (callEnvC fd s.heap.objs.size a)) (leaving (callEnvC fd s.heap.objs.size a) e) (fun O s'' => R (.error e) s'') (fun e' s'' => R (.error e') s'') s') s₁)
  (hco : fd.scope.isCoroutine = false) (hgen : fd.scope.isGenerator = false) (hk : fd.scope.kind = .function) :
  codeAny (model prog w) A (.call (.ref a) ⟨vals, []⟩) R s := by
 refine codeAny_call_function hroom ho hdata hco hgen hbody hcd ?_
 rw [hclo]
 refine hbind _ _ _ _ (wpAny_newFunctionEnv_cells hk hkind fun env he s' x => ?_)
 subst he
 exact ⟨hlim.keeps x.toInCall.keep, codeAny_func (h s' x)⟩
open Classical in
theorem wd_body {addr : Addr} {o : Obj} {fd : FuncData} {body : List Stmt} {ps : List Str} {vs ws : List V} {F0 : Frame}
  (ho : X.K.lookup addr = some o) (hd : o.data = .func fd) (hb : fd.body = .stmts body) (hclo : fd.closure = []) (hcd : codeIn X.K fd.code fd.qualname = true) (hsc : scChk fd.scope fi ps = true)
  (hG : ∀ p ∈ fi.G, GlobV X p.1 p.2) (hg : fd.globals = mainGlobals) (hbl : fd.builtins = builtinsNs) (hbind : ∀ P s vals, St X P H s -> VRs s.heap vs vals -> ∃ vals', BindsTo s fd ⟨vals, []⟩ (ps.zip vals') /\ VRs s.heap ws vals')
  (hL : F0.L = fi.L.map fun x => (x, (ps.zip ws).lookup x)) (hC : F0.C = fi.C.map fun x => (x, (ps.zip ws).lookup x))
  (h : ∀ env, WS X n fi env F0 body H (QF Q)) : WD X (n + 1) (.ref addr) vs H Q := fun A P s vals0 r S rv0 => by
 obtain ⟨vals, hbd, rv⟩ := hbind P s vals0 S rv0
 have hs := hsc
 unfold scChk at hs
 simp only [Bool.and_eq_true, List.all_eq_true, decide_eq_true_eq, Bool.not_eq_true', Bool.or_eq_true, List.isEmpty_iff] at hs
 refine cps fun G0 z0 => ?_
 obtain ⟨⟨⟨⟨⟨⟨⟨⟨⟨⟨h1, h2⟩, h3⟩, h4⟩, h5⟩, h6⟩, h7⟩, h8⟩, h9⟩, h10⟩, h11⟩ := hs
 refine z0 ?_
 clear z0
 have hl := rv.length
 refine codeAny_call_cellsB (fd := fd) (binds := ps.zip vals) (by have := r.depth; show _ < 1000; lia) (S.K _ _ ho) hd S.limit (codeRec_of S.K hcd) hb hbd hclo (fun x hx => ?_) (fun s₁ I => ?_) h2 h3 h1
 ·have hx' := zip_names (List.mem_map_of_mem (f := (·.1)) hx)
  rcases h10 _ hx' with q | q
  ·exact .inl (h5 _ (by simpa using q)).1
  ·have := (h8 _ (by simpa using q)).1.1
   exact .inr ⟨this, cellsFrom_has this⟩
 generalize hLL : s.heap.objs.size = L at I
 have eL : (callEnvC fd L addr).locals = L := rfl
 have eS : (callEnvC fd L addr).scope = fd.scope := rfl
 have EV : EnvOK X (callEnvC fd L addr) fi := scChk_env hsc hG eS hg hbl
 refine cps fun G0 z0 => ?_
 obtain ⟨h', tk, rfl⟩ := I.toInCall.same
 have hk := I.toInCall.keep
 have g : Grow s.heap h' := fun a xs m e => hk a _ e
 have lt : ∀ {a o}, s.heap.get? a = some o -> a < L := fun e => hLL ▸ Heap.lt_size e
 let cs := (callEnvC fd L addr).cells
 let P' : Pin := fun a => if a = L \/ (∃ x, cs.lookup x = some a) then h'.get? a else P a
 have old : ∀ {a}, a < L -> P' a = P a := fun {a} la => by
  have : ¬ (a = L \/ ∃ x, cs.lookup x = some a) := by
   rintro (q | ⟨x, q⟩)
   ·exact absurd (q ▸ la) (Nat.lt_irrefl _)
   ·exact absurd (Nat.lt_trans la (eL ▸ I.above x a (mem_of_lookup q))) (Nat.lt_irrefl _)
  simp only [P', if_neg this]
 have S₁ : St X P' H { s with heap := h', toks := tk } := by
  refine ⟨fun a o' e => (old (lt (S.keep a o' e))).trans (S.base a o' e), fun a o' e => ?_, fun a c e => ?_, S.gens, S.os⟩
  ·by_cases q : a = L \/ ∃ x, cs.lookup x = some a
   ·simpa only [P', if_pos q] using e
   ·simp only [P', if_neg q] at e; exact hk a o' (S.pin a o' e)
  ·obtain ⟨o', q, _⟩ := (S.cell a c e).2.some
   exact ⟨(old (lt q)).trans (S.cell a c e).1, (S.cell a c e).2.mono g ((hk a o' q).trans q.symm)⟩
 have rv' := rv.grow g
 obtain ⟨oL, es, ep, n1, n2, n3, n4⟩ := I.toInCall.ns
 refine z0 ?_
 clear z0
 have F₁ : FrOK X fi P' (callEnvC fd L addr) F0 h' := by
  refine ⟨by rw [hL, List.map_map]; exact List.map_id'' (fun O => rfl) _, by simp only [hC, List.map_map, h9, List.append_nil]; exact List.map_id'' (fun O => rfl) _, ?_, ⟨oL, _, by simp only [P', eL, true_or, if_true]; exact n1, ⟨es, ep, n2, n3, n4⟩, fun p hp V hV => ?_⟩, fun p hp => ?_, fun p hp q hq c e1 e2 => ?_⟩
  ·cases q : X.B.get? (callEnvC fd L addr).locals with
   | none => rfl
   | some o' => exact absurd (eL ▸ lt (S.keep _ _ q)) (Nat.lt_irrefl _)
  ·rw [hL] at hp
   obtain ⟨x, hx, rfl⟩ := List.mem_map.mp hp
   exact bindL_at (EV.ln x hx).1 h11 rv' hV
  ·rw [hC] at hp
   refine cps fun G0 z0 => ?_
   obtain ⟨x, hx, rfl⟩ := List.mem_map.mp hp
   have hx2 := (h8 x hx).1.1
   obtain ⟨c, hc⟩ := Option.isSome_iff_exists.mp (cellsFrom_has (k := L + 1) (acc := []) hx2)
   obtain ⟨oc, z1, z2⟩ := I.cell x c hc
   refine z0 ?_
   clear z0
   refine ⟨c, oc, _, hc, by simp only [P']; rw [if_pos (.inr ⟨x, hc⟩)]; exact z1, ?_, z2, fun V hV => ?_⟩
   ·cases q : X.B.get? c with
    | none => rfl
    | some o' => exact absurd (Nat.lt_trans (lt (S.keep _ _ q)) (eL ▸ I.above x c (mem_of_lookup hc))) (Nat.lt_irrefl _)
   ·exact bindC_at (by rw [show (callEnvC fd L addr).kindOf x = some .cell from hx2]; simp) h11 rv' hV
  ·have ap := I.apart
   have m1 := mem_of_lookup e1
   have m2 := mem_of_lookup e2
   generalize (callEnvC fd L addr).cells = cl at ap m1 m2
   induction ap with
   | nil => cases m1
   | cons hd' _ ih =>
    rcases List.mem_cons.mp m1 with k1 | k1 <;> rcases List.mem_cons.mp m2 with k2 | k2
    ·rw [<- k1] at k2; exact (Prod.mk.inj k2).1.symm
    ·exact absurd (by rw [<- k1]) (hd' _ k2)
    ·exact absurd (by rw [<- k2]) (hd' _ k1)
    ·exact ih k1 k2
 have r' : Room n (A.deeper (callEnvC fd L addr)) := ⟨by have := r.depth; show A.depth + 1 + n <= 900; lia, by have := r.units; show A.units + 3 + 10 * n <= 9000; lia, r.hd⟩
 refine wpAny_mono (h _ EV _ P' _ r' S₁ F₁) (fun fl s' p0 => p0.casesOn fun f' F' H' P'' rf ps' S' O g' q => ?_) fun O O x => x.elim
 have S2 : St X P H' s' := S'.drop S.base fun a o' e => by
  have la := lt (S.pin a o' e)
  rw [ps' a (by rw [eL]; exact Nat.ne_of_lt la) (fun x O c hc k => absurd (Nat.lt_trans la (k ▸ eL ▸ I.above x c (mem_of_lookup hc))) (Nat.lt_irrefl _)), old la]; exact e
 induction f' with
 | next => rw [show fl = _ from rf]; exact ⟨.none, H', vr_none, S2, g.trans g', q⟩
 | brk => exact q.elim
 | cont => exact q.elim
 | ret V => obtain ⟨v, rfl, rw'⟩ := rf; exact ⟨V, H', rw', S2, g.trans g', q⟩
end
end
section
theorem St.grown {X : Wd} {P : Pin} {H : Hp} {s : Shared} (S : St X P H s) {h' : Heap} (x : ∀ b o, s.heap.get? b = some o -> h'.get? b = some o) {tk : Nat} : St X P H { s with heap := h', toks := tk } /\ Grow s.heap h' := by
 have g : Grow s.heap h' := fun a xs m e => x _ _ e
 refine ⟨⟨S.base, fun a o e => x _ _ (S.pin a o e), fun a c e => ⟨(S.cell a c e).1, ?_⟩, S.gens, S.os⟩, g⟩
 obtain ⟨o, q, _⟩ := (S.cell a c e).2.some
 exact (S.cell a c e).2.mono g ((x _ _ q).trans q.symm)
theorem St.notSys {X : Wd} {P : Pin} {H : Hp} {s : Shared} (S : St X P H s) {a : Addr} {c : Cell} (e : H a = some c) : (a == sysModules) = false := by
 have := (S.cell a c e).1
 obtain ⟨o, q⟩ := X.sys
 have q2 := S.base _ _ q
 cases k : a == sysModules with
 | false => rfl
 | true => rw [eq_of_beq k, q2] at this; cases this
noncomputable def lk (l : List (Int × V)) (k : Int) : Option V := match l with
 | [] => none
 | p :: r => if p.1 = k then some p.2 else lk r k
noncomputable def putI (l : List (Int × V)) (k : Int) (v : V) : List (Int × V) := if l.any (fun p => p.1 = k) then l.map (fun p => if p.1 = k then (p.1, v) else p) else l ++ [(k, v)]
theorem vat_pos {a k : Int} {x : Value} {r : List (Int × Value)} (z : a = k) : valueAt ((a, x) :: r) k = some x := congrArg (Option.map fun p : Int × Value => p.2) (List.find?_cons_of_pos (p := fun p : Int × Value => decide (p.1 = k)) (decide_eq_true z))
theorem vat_neg {a k : Int} {x : Value} {r : List (Int × Value)} (z : ¬ a = k) : valueAt ((a, x) :: r) k = valueAt r k := congrArg (Option.map fun p : Int × Value => p.2) (List.find?_cons_of_neg (p := fun p : Int × Value => decide (p.1 = k)) fun h => z (of_decide_eq_true h))
theorem VPs.at {h : Heap} {vs : List (Int × V)} : ∀ {es}, VPs h vs es -> ∀ {k v}, lk vs k = some v -> ∃ x, valueAt es k = some x /\ VR h v x := by
 induction vs with
 | nil => exact fun {es} O {k v} e => none_no e
 | cons p vs ih => exact fun {es} q {k v} => q.elim fun x q => q.elim fun r q => q.1 ▸ fun e => (Decidable.em (p.1 = k)).elim (fun z => ⟨x, vat_pos z, Option.some.inj ((if_pos z).symm.trans e) ▸ q.2.1⟩) fun z => (ih q.2.2 ((if_neg z).symm.trans e)).elim fun y w => ⟨y, (vat_neg z).trans w.1, w.2⟩
theorem VPs.none {h : Heap} {vs : List (Int × V)} : ∀ {es}, VPs h vs es -> ∀ {k}, lk vs k = none -> valueAt es k = none := by
 induction vs with
 | nil => exact fun {es} q {k} O => (show _ = _ from q) ▸ rfl
 | cons p vs ih => exact fun {es} q {k} => q.elim fun x q => q.elim fun r q => q.1 ▸ fun e => (Decidable.em (p.1 = k)).elim (fun z => none_no (Eq.symm ((if_pos z).symm.trans e))) fun z => (vat_neg z).trans (ih q.2.2 ((if_neg z).symm.trans e))
theorem VPs.len {h : Heap} {vs : List (Int × V)} : ∀ {es}, VPs h vs es -> es.length = vs.length := by
 induction vs with
 | nil => exact fun q => (show _ = _ from q) ▸ rfl
 | cons p vs ih => exact fun q => q.elim fun x q => q.elim fun r q => q.1 ▸ congrArg (· + 1) (ih q.2.2)
theorem VPs.app {h : Heap} {k v x} (rv : VR h v x) {vs : List (Int × V)} : ∀ {es}, VPs h vs es -> VPs h (vs ++ [(k, v)]) (es ++ [(k, x)]) := by
 induction vs with
 | nil => exact fun q => by rw [show _ = _ from q]; exact ⟨x, [], rfl, rv, rfl⟩
 | cons p vs ih => exact fun q => q.elim fun y q => q.elim fun r q => q.1 ▸ ⟨y, _, rfl, q.2.1, ih q.2.2⟩
theorem VPs.any {h : Heap} {k : Int} {vs : List (Int × V)} : ∀ {es}, VPs h vs es -> vs.any (fun p => p.1 = k) = es.any (fun p => p.1 = k) := by
 induction vs with
 | nil => exact fun q => (show _ = _ from q) ▸ rfl
 | cons p vs ih => exact fun q => q.elim fun y q => q.elim fun r q => q.1 ▸ congrArg (_ || ·) (ih q.2.2)
theorem VPs.map {h : Heap} {k v x} (rv : VR h v x) {vs : List (Int × V)} : ∀ {es}, VPs h vs es -> VPs h (vs.map fun p => if p.1 = k then (p.1, v) else p) (es.map fun p => if p.1 = k then (p.1, x) else p) := by
 induction vs with
 | nil => exact fun q => (show _ = _ from q) ▸ rfl
 | cons p vs ih => exact fun q => q.elim fun y q => q.elim fun r q => q.1 ▸ (Decidable.em (p.1 = k)).elim (fun z => by rw [List.map_cons, List.map_cons, if_pos z, if_pos z]; exact ⟨x, _, rfl, rv, ih q.2.2⟩) fun z => by rw [List.map_cons, List.map_cons, if_neg z, if_neg z]; exact ⟨y, _, rfl, q.2.1, ih q.2.2⟩
theorem VPs.put {h : Heap} {k v x} {vs es} (b : VPs h vs es) (rv : VR h v x) : VPs h (putI vs k v) (stored es k x) := by
 unfold putI stored
 rw [b.any]
 split
 ·exact b.map rv
 ·exact b.app rv
section
variable {X : Wd} {n : Nat} {fi : FI} {env : Env} {F : Frame} {H : Hp} {Q : V -> Hp -> Prop}
theorem we_sub {value slice pos} (h : WE X n fi env F value H (fun o H₁ => WE X n fi env F slice H₁ (fun i H₂ => W2 X n (subscriptTail value slice) o i H₂ Q))) : WE X n fi env F (.Subscript value slice pos) H Q := fun E A P s r S f =>
 Subscript_ (wpAny_mono (h E A P s r S f) (fun va s₁ p0 => p0.casesOn fun a H₁ ra S₁ g₁ q =>
  wpAny_mono (q E A P s₁ r S₁ (f.grow g₁)) (fun vb s₂ p0 => p0.casesOn fun b H₂ rb S₂ g₂ q₂ => q₂.use r S₂ (ra.grow g₂) rb (g₁.trans g₂)) fun O O x => x) fun O O x => x)
theorem wg_list {value slice} {a : Addr} {vs : List V} {i : Int} {v : V} (e : H a = some (.list vs)) (h0 : 0 <= i) (hv : vs[i.toNat]? = some v) (h1 : i < 2 ^ 63) (h : Q v H)
  (hs : ∀ o i, subscripted slice false o i = operate [o, i] (getItem o i)) : W2 X n (subscriptTail value slice) (.ref a) (.int i) H Q := fun A P s va vb r S ra ⟨t, rb⟩ => by
 subst rb; rw [show va = _ from ra]
 refine cps fun G0 z0 => ?_
 obtain ⟨xs, m, ho, rs⟩ := (S.cell _ _ e).2
 obtain ⟨x, hx, rx⟩ := rs.get hv
 refine z0 ?_
 clear z0
 have il : s.heap.IsList a xs.toArray := ⟨_, ho, rfl, m, rfl⟩
 exact tail_any il.typeIs PySem.F.slot_list_getitem.lookup (wpAny_getItem_list il h0 h1 (by simpa using hx) (.mk S rx (Grow.refl _) h)) (hs _ _)
theorem wg_tup {value slice} {vs : List V} {i : Int} {v : V} (h0 : 0 <= i) (hv : vs[i.toNat]? = some v) (h1 : i < 2 ^ 63) (h : Q v H)
  (hs : ∀ o i, subscripted slice false o i = operate [o, i] (getItem o i)) : W2 X n (subscriptTail value slice) (.tup vs) (.int i) H Q := fun A P s va vb r S q0 q1 => q0.onTup fun a xs m ea ho rs => q1.elim fun t rb => by
 subst rb ea
 obtain ⟨x, hx, rx⟩ := rs.get hv
 refine item_tupleT (l := xs) (j := i.toNat) ⟨_, ho, rfl, m, rfl⟩ (by lia) h1 ?_ hx (.mk S rx (Grow.refl _) h) (hs _ _)
 have : i.toNat < xs.length := (List.getElem?_eq_some_iff.mp hx).1
 unfold seqIndex?
 simp only [show ¬ i < 0 by lia, if_false]
 rw [if_pos (by simp; lia)]
theorem wg_dict {value slice} {a : Addr} {kvs : List (Int × V)} {ep : Nat} {i : Int} {v : V} (e : H a = some (.dict kvs ep)) (hv : lk kvs i = some v) (h : Q v H)
  (hs : ∀ o i, subscripted slice false o i = operate [o, i] (getItem o i)) : W2 X n (subscriptTail value slice) (.ref a) (.int i) H Q := fun A P s va vb r S ra ⟨t, rb⟩ => by
 subst rb; rw [show va = _ from ra]
 refine cps fun G0 z0 => ?_
 obtain ⟨es, ho, rs⟩ := (S.cell _ _ e).2
 obtain ⟨x, hx, rx⟩ := rs.at hv
 obtain ⟨o, _, hoo, hex, _⟩ := id ho
 refine z0 ?_
 clear z0
 exact tail_any (T := "dict") ⟨o, hoo, hex.1⟩ PySem.F.slot_dict_getitem.lookup (wpAny_getItem_of (knd := knd X.w) (k := i) (by show Value.isInt i (.int i t) = true; simp [Value.isInt]) ho.dictOf.mapOf hx (.mk (S.toks _) rx (Grow.refl _) h)) (hs _ _)
theorem wg_bytes {value slice} {b : Array UInt8} {i : Int} (h0 : 0 <= i) (h1 : i < b.size) (h2 : b.size <= 10000000) (h : Q (.int ((b.getD i.toNat 0).toNat : Int)) H)
  (hs : ∀ o i, subscripted slice false o i = operate [o, i] (getItem o i)) : W2 X n (subscriptTail value slice) (.bytes b) (.int i) H Q := fun A P s va vb r S ⟨u, ra⟩ ⟨t, rb⟩ => by
 subst rb ra
 obtain ⟨l⟩ := b
 refine tail_any (T := "bytes") rfl FB.slot_bytes_getitem.lookup (PySem.W.getItem_bytes (l := l) (by simp at h2; lia) h0 (by simpa using h1) (.mk (S.toks _) vr_int (Grow.refl _) ?_)) (hs _ _)
 have h3 : i.toNat < l.length := by simp at h1; lia
 simpa [Array.getD, List.getD, h3] using h
end
end
section
section
variable (X : Wd) (n : Nat)
inductive PU (P : Pin) (h : Heap) (Q : Hp -> Prop) (s' : Shared) : Prop
 | i (H' : Hp) (S : St X P H' s') (g : Grow h s'.heap) (q : Q H')
noncomputable def WSI (o i v : V) (H : Hp) (Q : Hp -> Prop) : Prop :=
 ∀ A P s vo vi vv, Room n A -> St X P H s -> VR s.heap o vo -> VR s.heap i vi -> VR s.heap v vv -> wpAny (MM X) A (setItem vo vi vv) (fun O s' => PU X P s.heap Q s') noE s
end
theorem mapSeq_set (xs : List Value) (m k : Nat) (x : Value) : Obj.mapSeq (fun y => y.setIfInBounds k x) (lstO xs m) = lstO (xs.set k x) m := by
 simp [Obj.mapSeq]
section
variable {X : Wd} {n : Nat} {fi : FI} {env : Env} {F : Frame} {H : Hp}
theorem si_list {a : Addr} {vs : List V} {i : Int} {v : V} {Q : Hp -> Prop} (e : H a = some (.list vs)) (h0 : 0 <= i) (h1 : i < vs.length) (h2 : vs.length <= 10000000) (h : Q (H.set a (.list (vs.set i.toNat v)))) : WSI X n (.ref a) (.int i) v H Q := fun A P s vo vi vv r S ro ⟨t, ri⟩ rv => by
 subst ri; rw [show vo = _ from ro]
 refine cps fun G0 z0 => ?_
 obtain ⟨xs, m, ho, rs⟩ := (S.cell _ _ e).2
 refine z0 ?_
 clear z0
 have hl := rs.length
 have il : s.heap.IsList a xs.toArray := ⟨_, ho, rfl, m, rfl⟩
 unfold setItem
 try with_reducible refine wpAny_holding ?_
 first | refine wpAny_bind (wpAny_pure ?_) | skip
 refine wpAny_bind (wpAny_sequenceKey il.typeIs (by decide) ?_)
 refine wpAny_bind (wpAny_callSpecial?_slot (name := Str.ofString "__setitem__") il.typeIs PySem.F.slot_list_setitem
  (wpAny_call_entry PySem.F.slot_list_setitem il.typeIs PySem.F.entry_list_setitem ?_ (PySem.F.args_list_setitem_3 _ _ _)))
 show wpAny _ _ (Builtin.List.listSubscript? (.int i t) >>= _) _ _ s
 refine wpAny_bind (wpAny_listSubscript_int (fitsIndex_of h0 (by lia)) ?_)
 obtain ⟨j, rfl⟩ := Int.eq_ofNat_of_zero_le h0
 have hj : j < xs.length := by lia
 show wpAny _ _ ((seqItemAt a j >>= fun r => pure (r.map (j, ·))) >>= _) _ _ s
 refine wpAny_bind (wpAny_bind (wpAny_seqItemAt ho rfl (wpAny_pure ?_)))
 rw [show xs.toArray[j]? = some xs[j] by simp [hj]]
 show wpAny _ _ (setSeqItemAt a j vv >>= _) _ _ s
 refine wpAny_bind (wpAny_setSeqItemAt ho rfl ?_)
 have up : (s.heap.update a (Obj.mapSeq (·.setIfInBounds j vv))).get? a = some (lstO (xs.set j vv) m) := by
  rw [Heap.get?_update_self _ ho (by rw [mapSeq_set]; rfl), mapSeq_set]
 have g : Grow s.heap (s.heap.update a (Obj.mapSeq (·.setIfInBounds j vv))) := S.grow_at e (Heap.SameBut.update _ _ _)
 have fin := S.upd e (c' := .list (vs.set j v)) (Obj.mapSeq (·.setIfInBounds j vv)) (CR.list up ((rs.grow g).set (rv.grow g))) (tk := s.toks)
 first
  | exact wpAny_bind (wpAny_pure (wpAny_pure ⟨.none, rfl, wpAny_pure ⟨_, fin, g, h⟩⟩))
  | exact wpAny_pure ⟨.none, rfl, wpAny_pure ⟨_, fin, g, h⟩⟩
theorem si_dict {a : Addr} {kvs : List (Int × V)} {ep : Nat} {i : Int} {v : V} {Q : Hp -> Prop} (e : H a = some (.dict kvs ep)) (h2 : kvs.length <= 10000000) (h : ∀ ep', Q (H.set a (.dict (putI kvs i v) ep'))) : WSI X n (.ref a) (.int i) v H Q := fun A P s vo vi vv r S ro ⟨t, ri⟩ rv => by
 subst ri; rw [show vo = _ from ro]
 obtain ⟨es, ho, rs⟩ := (S.cell _ _ e).2
 refine wpAny_setItem_pairs (knd := knd X.w) (k := i) (by show Value.isInt i (.int i t) = true; simp [Value.isInt]) ho.dictOf (fun h' hd hs => ?_) (by rw [rs.len]; exact le_line h2)
 have g := S.grow_at e hs
 obtain ⟨ep', hd⟩ := hd.dictAt
 exact ⟨_, S.same e hs (CR.dict hd ((rs.grow g).put (rv.grow g))), g, h ep'⟩
theorem wa_sub {o i : Expr} {pos} {v : V} {Q : Frame -> Hp -> Prop} (h : WE X n fi env F o H (fun ov H₁ => WE X n fi env F i H₁ (fun iv H₂ => WSI X n ov iv v H₂ (fun H₃ => Q F H₃)))) : WA X n fi env F (.Subscript o i pos) v H Q := fun E A P s u r S f ru => by
 refine wpAny_bind (wpAny_holding (wpAny_mono (h E A P s r S f) (fun va s₁ p0 => p0.casesOn fun a H₁ ra S₁ g₁ q => ?_) fun O O x => x))
 refine wpAny_bind (wpAny_holding (wpAny_mono (q E A P s₁ r S₁ (f.grow g₁)) (fun vb s₂ p0 => p0.casesOn fun b H₂ rb S₂ g₂ q₂ => ?_) fun O O x => x))
 refine wpAny_bind (wpAny_standAt (wpAny_bind (wpAny_holding (wpAny_mono (q₂ A P s₂ va vb u r S₂ (ra.grow g₂) rb (ru.grow (g₁.trans g₂))) (fun O s₃ p0 => p0.casesOn fun H₃ S₃ g₃ q₃ => ?_) fun O O x => x))))
 exact wpAny_release ⟨F, H₃, P, .refl _ _ _, S₃, f.grow ((g₁.trans g₂).trans g₃), (g₁.trans g₂).trans g₃, q₃⟩
theorem evalArgs_none' {M : Model} {A : Around} {E : Value -> Shared -> Prop} {s : Shared} {f : Value} {Q : Args -> Shared -> Prop} (h : wpAny M A (spliced []) (fun vs s' => Q ⟨vs, []⟩ s') E s) : wpAny M A (evalArgs f true [] []) Q E s := by
 show wpAny M A (spliced [] >>= _) Q E s
 refine wpAny_bind (wpAny_mono h (fun vs s' h' => ?_) fun O O x => x)
 refine wpAny_holding ?_
 exact wpAny_bind (wpAny_pure (wpAny_bind (wpAny_pure (wpAny_pure h'))))
theorem meth_args {id : String} {first : List Value} {args : List Expr} {pos : Pos} {Q : V -> Hp -> Prop} {fs : List V} (hp : ∀ env pos, (backTo pos (starEach args env)).any (·.1) = false)
  (h : WEs X n fi env F args H (fun vs H₁ => WC X n (.builtin id) (fs ++ vs) H₁ Q)) (E : EnvOK X env fi) {A : Around} {P : Pin} {s : Shared} (r : Room n A) (S : St X P H s) (f : FrOK X fi P env F s.heap) (rf : ∀ h', Grow s.heap h' -> VRs h' fs first) :
  wpAny (MM X) A (callWith pos (.builtin id) first (backTo pos (starEach args env)) []) (PV X P s.heap Q) noE s := by
 refine callWith_builtin (hp env pos) ?_
 have hh := h E A P s pos r S f
 have hq := hp env pos
 revert hh hq
 generalize backTo pos (starEach args env) = l
 intro hh hq
 have k : wpAny (MM X) A (spliced l) (fun vs s' => wpAny (MM X) A (call (.builtin id) (first ++ vs)) (PV X P s.heap Q) noE s') noE s :=
  wpAny_mono hh (fun vs s₁ p0 => p0.casesOn fun Vs H₁ rs S₁ g₁ q => q.use r S₁ ((rf _ g₁).append rs) g₁) fun O O x => x
 cases l with
 | nil => exact evalArgs_none' k
 | cons p l' =>
  obtain ⟨b, x⟩ := p
  cases b with
  | false => exact evalArgs_plain k
  | true => exact ff_no (Eq.symm hq)
theorem we_meth {o : Expr} {name : Str} {apos pos : Pos} {args : List Expr} {id T : String} {Q : V -> Hp -> Prop} (pa : PlainAttrs T) (slot : Slot T name id) (hty : typeOf (.builtin id) = pure (.type "method_descriptor"))
  (h : WE X n fi env F o H (fun ov H₁ => (∃ a, ov = .ref a /\ ∃ c, H₁ a = some c /\ (match c with | .list _ => T = "list" | .dict _ _ => T = "dict" | _ => False)) /\ WEs X n fi env F args H₁ (fun ws H₂ => WC X n (.builtin id) (ov :: ws) H₂ Q)))
  (he : ∀ env, eval (.Call (.Attribute o name apos) args [] pos) env = (do
   let ov <- eval o env
   standAt apos.atName
   let (f, first) <- holding [ov] (getMethod ov name (do return (<- importBound o env).getD true))
   callWith pos f first (backTo pos (starEach args env)) (backToKw pos (keywordEach [] env))))
  (hp : ∀ env pos, (backTo pos (starEach args env)).any (·.1) = false) : WE X n fi env F (.Call (.Attribute o name apos) args [] pos) H Q := fun E A P s r S f => by
 simp only [he]
 refine wpAny_bind (wpAny_mono (h E A P s r S f) (fun va s₁ p0 => p0.casesOn fun a H₁ ra S₁ g₁ q0 => ?_) fun O O x => x)
 refine cps fun G0 z0 => ?_
 obtain ⟨⟨l, el, c, hc, hT⟩, q⟩ := q0
 subst el
 refine z0 ?_
 clear z0
 rw [show va = _ from ra]
 refine cps fun G0 z0 => ?_
 obtain ⟨ob, o1, o2, o3⟩ : ∃ ob, s₁.heap.get? l = some ob /\ ob.cls = .type T /\ ob.dict = none := by
  have cr := (S₁.cell _ _ hc).2
  induction c with
  | list vs => obtain ⟨xs, m, ho, _⟩ := cr; exact ⟨_, ho, by rw [hT], rfl⟩
  | dict kvs ep => obtain ⟨es, ⟨ob, _, ho, ex, _⟩, _⟩ := cr; exact ⟨ob, ho, by rw [hT]; exact ex.1, ex.2.1⟩
  | inst _ _ => exact hT.elim
  | attrs _ => exact hT.elim
  | rng _ _ _ => exact hT.elim
  | items _ => exact hT.elim
 refine z0 ?_
 clear z0
 refine wpAny_bind (wpAny_standAt (wpAny_bind (wpAny_holding (getMethod_builtin (T := T) ⟨ob, o1, o2⟩ pa slot hty (fun x e => by cases e; exact ⟨ob, o1, o3⟩) ?_))))
 exact wpAny_mono (meth_args (first := [.ref l]) (fs := [.ref l]) hp q E r S₁ (f.grow g₁) (fun O O => VRs.two vr_ref)) (fun O O x => x.grow g₁) fun O O x => x
theorem wc_append {a : Addr} {vs : List V} {v : V} {Q : V -> Hp -> Prop} (e : H a = some (.list vs)) (h2 : vs.length <= 10000000) (h : Q .none (H.set a (.list (vs ++ [v])))) : WC X n (.builtin "list.append") [.ref a, v] H Q := fun A P s vals r S q0 => q0.elim fun x q1 => q1.elim fun l q2 => q2.elim fun el q3 => q3.elim fun ra q4 => q4.elim fun y q5 => q5.elim fun l' q6 => q6.elim fun el' q7 => q7.elim fun rv en => by
 subst el el'; rw [show l' = _ from en, show x = _ from ra]
 refine cps fun G0 z0 => ?_
 obtain ⟨xs, m, ho, rs⟩ := (S.cell _ _ e).2
 refine z0 ?_
 clear z0
 have up : (s.heap.update a (Obj.mapSeq fun z => z.push y)).get? a = some (lstO (xs ++ [y]) (m + 1)) := by
  rw [Heap.get?_update_self _ ho (by simp [Obj.mapSeq, Obj.isFreed])]; simp [Obj.mapSeq]
 have g := S.grow_at e (Heap.SameBut.update s.heap a (Obj.mapSeq fun z => z.push y))
 exact call_meets PySem.F.slot_list_append ⟨_, ho, rfl⟩ PySem.F.entry_list_append (PySem.F.args_list_append_2 _ _) (PySem.list_append a xs.toArray m y (by rw [List.size_toArray, rs.length]; exact le_line h2))
  ⟨ho, .mk (S.upd e (c' := .list (vs ++ [v])) _ (CR.list up ((rs.grow g).append (VRs.two (rv.grow g)))) (tk := s.toks)) vr_none g h⟩
theorem wc_extend {a b : Addr} {vs ws : List V} {Q : V -> Hp -> Prop} (e : H a = some (.list vs)) (e2 : H b = some (.list ws)) (h2 : vs.length + ws.length <= 10000000) (h : Q .none (H.set a (.list (vs ++ ws)))) : WC X n (.builtin "list.extend") [.ref a, .ref b] H Q := fun A P s vals r S q0 => q0.elim fun x q1 => q1.elim fun l q2 => q2.elim fun el q3 => q3.elim fun ra q4 => q4.elim fun y q5 => q5.elim fun l' q6 => q6.elim fun el' q7 => q7.elim fun rv en => by
 subst el el'; rw [show l' = _ from en, show x = _ from ra, show y = _ from rv]
 refine cps fun G0 z0 => ?_
 obtain ⟨xs, m, ho, rs⟩ := (S.cell _ _ e).2
 obtain ⟨ys, m2, ho2, rs2⟩ := (S.cell _ _ e2).2
 have l1 := rs.length
 have l2 := rs2.length
 have g := S.grow_at e (Heap.SameBut.update s.heap a (Obj.mapSeq fun z => z ++ ys.toArray))
 have sl : (10000000 : Nat) <= sizeLine := by decide
 obtain ⟨m3, up⟩ : ∃ m3, (s.heap.update a (Obj.mapSeq fun z => z ++ ys.toArray)).get? a = some (lstO (xs ++ ys) m3) := by
  rw [Heap.get?_update_self _ ho (by simp [Obj.mapSeq, Obj.isFreed])]; exact ⟨_, by simp only [Obj.mapSeq, List.append_toArray]; rfl⟩
 refine z0 ?_
 clear z0
 exact call_meets PySem.F.slot_list_extend ⟨_, ho, rfl⟩ PySem.F.entry_list_extend (PySem.F.args_list_extend_2 _ _) (PySem.AutoSeq1.list_extend_list_list_0 a xs.toArray m b ys.toArray m2
   (by simp only [List.size_toArray, Builtin.List.listTooLong]; have : ¬ (xs.length + ys.length > sizeLine) := (by lia); simp [this]) (by rw [List.size_toArray]; lia) (by simp only [List.size_toArray]; lia))
  ⟨ho, ho2, .mk (S.upd e (c' := .list (vs ++ ws)) _ (CR.list up ((rs.grow g).append (rs2.grow g))) (tk := s.toks)) vr_none g h⟩
theorem VRs.last {h : Heap} {vs : List V} {v : V} : ∀ {xs}, VRs h (vs ++ [v]) xs -> ∃ ys y, xs = ys ++ [y] /\ VRs h vs ys /\ VR h v y := by
 induction vs with
 | nil => exact fun q => q.elim fun x q => q.elim fun r q => ⟨[], x, q.1.trans (congrArg (x :: ·) q.2.2), rfl, q.2.1⟩
 | cons w vs ih => exact fun q => q.elim fun x q => q.elim fun r q => (ih q.2.2).elim fun ys z => z.elim fun y z => ⟨x :: ys, y, q.1.trans (congrArg (x :: ·) z.1), ⟨x, ys, rfl, q.2.1, z.2.1⟩, z.2.2⟩
theorem wc_pop {a : Addr} {vs : List V} {v : V} {Q : V -> Hp -> Prop} (e : H a = some (.list (vs ++ [v]))) (h2 : vs.length <= 1000000) (h : Q v (H.set a (.list vs))) : WC X n (.builtin "list.pop") [.ref a] H Q := fun A P s vals r S q0 => q0.elim fun x q1 => q1.elim fun l q2 => q2.elim fun el q3 => q3.elim fun ra en => by
 subst el; rw [show l = _ from en, show x = _ from ra]
 refine cps fun G0 z0 => ?_
 obtain ⟨xs, m, ho, rs⟩ := (S.cell _ _ e).2
 obtain ⟨ys, y, rfl, r1, r2⟩ := rs.last
 have l1 := r1.length
 have sl : (10000000 : Nat) <= sizeLine := by decide
 have g := S.grow_at e (Heap.SameBut.update s.heap a (Obj.mapSeq fun z => z.eraseIdxIfInBounds ((ys ++ [y]).toArray.size - 1)))
 obtain ⟨m3, up⟩ : ∃ m3, (s.heap.update a (Obj.mapSeq fun z => z.eraseIdxIfInBounds ((ys ++ [y]).toArray.size - 1))).get? a = some (lstO ys m3) := by
  rw [Heap.get?_update_self _ ho (by simp [Obj.mapSeq, Obj.isFreed])]
  have : (ys ++ [y]).toArray.eraseIdxIfInBounds ((ys ++ [y]).toArray.size - 1) = ys.toArray := by
   simp [Array.eraseIdxIfInBounds, List.eraseIdx_append_of_length_le]
  exact ⟨if ys.toArray.size == (ys ++ [y]).toArray.size then m else m + 1, by simp only [Obj.mapSeq, this]⟩
 refine z0 ?_
 clear z0
 exact call_meets PySem.F.slot_list_pop ⟨_, ho, rfl⟩ PySem.F.entry_list_pop (PySem.F.args_list_pop_1 _) (PySem.MeetsSeq.list_pop_last a (ys ++ [y]).toArray m y (by simp) (by simp; lia))
  ⟨ho, .mk (S.upd e (c' := .list vs) _ (CR.list up (r1.grow g)) (tk := s.toks)) (r2.grow g) g h⟩
end
end
section
section
variable {X : Wd} {n : Nat} {fi : FI} {env : Env} {F : Frame} {H : Hp} {Q : V -> Hp -> Prop}
theorem vr_tup {h : Heap} {a : Addr} {vs : List V} {xs : List Value} {m : Nat} (e : h.get? a = some (tupO xs m)) (r : VRs h vs xs) : VR h (.tup vs) (.ref a) := ⟨a, xs, m, rfl, e, r⟩
theorem op_addL {a b : Addr} {vs ws : List V} (e : H a = some (.list vs)) (e2 : H b = some (.list ws)) (hl : vs.length + ws.length <= 10000000) (h : ∀ c, H c = none -> Q (.ref c) (H.set c (.list (vs ++ ws)))) : WOp X n .Add (.ref a) (.ref b) H Q := fun A P s va vb r S ra rb => by
 rw [show va = _ from ra, show vb = _ from rb]
 refine cps fun G0 z0 => ?_
 obtain ⟨xs, m, ho, rs⟩ := (S.cell _ _ e).2
 obtain ⟨ys, m2, ho2, rs2⟩ := (S.cell _ _ e2).2
 refine z0 ?_
 clear z0
 refine PySem.P.add_list (items := xs.toArray) (items2 := ys.toArray) ho ho2 ?_ (by simp only [List.size_toArray]; rw [rs.length, rs2.length]; exact le_line hl)
 rw [List.append_toArray]
 exact .mk (S.alloc (CR.list (n := 0) (Heap.get?_push_size _ rfl) ((rs.append rs2).grow (Grow.push _ _)))) vr_ref (Grow.push _ _) (h _ S.none_size.1)
theorem op_addT {vs ws : List V} (h1 : vs ≠ []) (h2 : ws ≠ []) (hl : vs.length + ws.length <= 10000000) (h : Q (.tup (vs ++ ws)) H) : WOp X n .Add (.tup vs) (.tup ws) H Q := fun A P s va vb r S q0 q1 => q0.onTup fun a xs m ea ho rs => q1.onTup fun b ys m2 eb ho2 rs2 => by
 subst ea eb
 refine PySem.P.add_tuple (items := xs.toArray) (items2 := ys.toArray) ho ho2 ?_ ?_ ?_ (by simp only [List.size_toArray]; rw [rs.length, rs2.length]; exact le_line hl)
 ·intro k; simp at k; subst k; have := rs.length; cases vs; exact h1 rfl; simp at this
 ·intro k; simp at k; subst k; have := rs2.length; cases ws; exact h2 rfl; simp at this
 ·rw [List.append_toArray]
  exact .mk (S.push _) (vr_tup (m := 0) (Heap.get?_push_size _ rfl) ((rs.append rs2).grow (Grow.push _ _))) (Grow.push _ _) h
theorem op_addS {x y : Str} (hl : x.length + y.length <= 10000000) (h : Q (.str (x ++ y)) H) : WOp X n .Add (.str x) (.str y) H Q := fun A P s va vb r S ⟨t, ea⟩ ⟨u, eb⟩ => by
 subst ea eb
 exact PyProof.Rows.add_str (fun t' tk => .mk (S.toks _) vr_str (Grow.refl _) h) (le_line hl)
theorem foldl_rep (x : Value) (k : Nat) : ∀ (acc : Array Value), List.foldl (fun x1 x2 => x1 ++ x2) acc (List.replicate k #[x]) = acc ++ (List.replicate k x).toArray := by
 induction k with
 | zero => exact fun O => Array.append_empty.symm
 | succ k ih => exact fun acc => (ih (acc ++ #[x])).trans (Array.append_assoc.trans (congrArg (acc ++ ·) (List.append_toArray (l₁ := [x]) ..)))
theorem VRs.rep {h : Heap} {v x} (a : VR h v x) : ∀ k, VRs h (List.replicate k v) (List.replicate k x)
 | 0 => rfl
 | k + 1 => ⟨x, _, rfl, a, VRs.rep a k⟩
theorem tooL (x : Value) (k : Int) (h0 : k <= 10000000) : ¬Builtin.List.listTooLong (#[x].size * k.toNat) = true := by
 rw [show (#[x]).size = 1 from rfl]
 simp only [Builtin.List.listTooLong, sizeLine]; simp; lia
theorem op_mulL {a : Addr} {v : V} {k : Int} (e : H a = some (.list [v])) (h0 : k <= 10000000) (h1 : -10000000 <= k) (h : ∀ c, H c = none -> Q (.ref c) (H.set c (.list (List.replicate k.toNat v)))) : WOp X n .Mult (.ref a) (.int k) H Q := fun A P s va vb r S ra q0 => q0.elim fun u eb => by
 subst eb; rw [show va = _ from ra]
 refine cps fun G0 z0 => ?_
 obtain ⟨xs, m, ho, x, xr, rfl, rx, en⟩ := (S.cell _ _ e).2
 refine z0 ?_
 clear z0
 rw [show xr = _ from en] at ho
 refine wpAny_binaryOp_repeat_ref (T := "list") (U := "int") (by decide) ⟨_, ho, rfl⟩ (fun s' => typeIs_int s' k u) noFill_list_mul PySem.F.fills_int_mul PySem.F.slot_int_rmul repeat_list PySem.F.slot_int_index.lookup
  (call_meets PySem.F.slot_int_rmul (typeIs_int s k u) PySem.F.entry_int_rmul (PySem.F.args_int_rmul_2 _ _) (int___rmul___int_list k u a [x].toArray m)
   ⟨ho, rfl, ⟨_, ho, rfl⟩, call_meets PySem.F.slot_list_mul ⟨_, ho, rfl⟩ PySem.F.entry_list_mul (PySem.F.args_list_mul_2 _ _)
    (PySem.AutoListH.list___mul___list_int_3 a [x].toArray m k u (by simp [Builtin.List.listFitsIndex]; lia) (by rw [show ([x].toArray).size = 1 from rfl]; lia) (tooL x k h0))
    ⟨ho, ?_⟩⟩)
 have : (List.foldl (fun x1 x2 => x1 ++ x2) #[] (List.replicate (if ([x].toArray).isEmpty = true then 0 else k.toNat) [x].toArray)) = (List.replicate k.toNat x).toArray := by
  have := foldl_rep x k.toNat #[]
  simpa using this
 rw [this]
 exact .mk (S.alloc (CR.list (n := 0) (Heap.get?_push_size _ rfl) ((VRs.rep rx _).grow (Grow.push _ _)))) vr_ref (Grow.push _ _) (h _ S.none_size.1)
theorem VRs.one {h : Heap} {v : V} {xs} (r : VRs h [v] xs) : ∃ x, xs = [x] /\ VR h v x := (r).elim fun x q1 => q1.elim fun l q2 => q2.elim fun e q3 => q3.elim fun a b => ⟨x, by rw [e, show l = [] from b], a⟩
theorem VRs.pair {h : Heap} {v w : V} {xs} (r : VRs h [v, w] xs) : ∃ x y, xs = [x, y] /\ VR h v x /\ VR h w y := (r).elim fun x q1 => q1.elim fun l q2 => q2.elim fun e q3 => q3.elim fun a q4 => q4.elim fun y q5 => q5.elim fun l' q6 => q6.elim fun e' q7 => q7.elim fun b c => ⟨x, y, by rw [e, e', show l' = [] from c], a, b⟩
theorem wc_lenL {a : Addr} {vs : List V} (e : H a = some (.list vs)) (hl : vs.length <= 10000000) (h : Q (.int vs.length) H) : WC X n (.builtin "len") [.ref a] H Q := fun A P s vals r S rv => by
 obtain ⟨x, rfl, ra⟩ := rv.one
 rw [show x = _ from ra]
 refine cps fun G0 z0 => ?_
 obtain ⟨xs, m, ho, rs⟩ := (S.cell _ _ e).2
 refine z0 ?_
 clear z0
 exact Calls.call_len_list (items := xs.toArray) ⟨_, ho, rfl, m, rfl⟩ (by rw [List.size_toArray, rs.length]; lia) (.mk (S.toks _) (by rw [List.size_toArray, rs.length]; exact vr_int) (Grow.refl _) h)
theorem wc_lenT {vs : List V} (hl : vs.length <= 10000000) (h : Q (.int vs.length) H) : WC X n (.builtin "len") [.tup vs] H Q := fun A P s vals r S rv => by
 refine cps fun G0 z0 => ?_
 obtain ⟨x, rfl, a, xs, m, ea, ho, rs⟩ := rv.one
 refine z0 ?_
 clear z0
 subst ea
 exact PyProof.Rows.len_tuple (items := xs.toArray) ⟨_, ho, rfl, m, rfl⟩ (by rw [List.size_toArray, rs.length]; lia) (.mk (S.toks _) (by rw [List.size_toArray, rs.length]; exact vr_int) (Grow.refl _) h)
theorem wc_lenB {b : Array UInt8} (hl : b.size <= 10000000) (h : Q (.int b.size) H) : WC X n (.builtin "len") [.bytes b] H Q := fun A P s vals r S rv => by
 obtain ⟨x, rfl, t, ea⟩ := rv.one
 subst ea
 exact PySem.W.len_bytes (by lia) (.mk (S.toks _) vr_int (Grow.refl _) h)
theorem wc_lenD {a : Addr} {kvs : List (Int × V)} {ep : Nat} (e : H a = some (.dict kvs ep)) (hl : kvs.length <= 10000000) (h : Q (.int kvs.length) H) : WC X n (.builtin "len") [.ref a] H Q := fun A P s vals r S rv => by
 obtain ⟨x, rfl, ra⟩ := rv.one
 rw [show x = _ from ra]
 obtain ⟨es, ho, rs⟩ := (S.cell _ _ e).2
 exact call_len_dict (knd := knd X.w) (S.notSys e) ho.dictOf (by rw [rs.len]; lia) (.mk (S.toks _) (by rw [rs.len]; exact vr_int) (Grow.refl _) h)
theorem wc_max2 {a b : Int} (h : Q (.int (max a b)) H) : WC X n (.builtin "max") [.int a, .int b] H Q := fun A P s vals r S rv => by
 obtain ⟨x, y, rfl, ⟨t, ea⟩, ⟨u, eb⟩⟩ := rv.pair
 subst ea eb
 refine max_two_ints r.hd (fun h' tk hk => ?_)
 obtain ⟨S', g⟩ := S.grown hk (tk := tk)
 split
 ·rename_i k; exact .mk S' (by rw [show max a b = b by lia]; exact vr_int) g h
 ·rename_i k; exact .mk S' (by rw [show max a b = a by lia]; exact vr_int) g h
theorem wc_min2 {a b : Int} (h : Q (.int (min a b)) H) : WC X n (.builtin "min") [.int a, .int b] H Q := fun A P s vals r S rv => by
 obtain ⟨x, y, rfl, ⟨t, ea⟩, ⟨u, eb⟩⟩ := rv.pair
 subst ea eb
 refine min_two_ints r.hd (fun h' tk hk => ?_)
 obtain ⟨S', g⟩ := S.grown hk (tk := tk)
 split
 ·rename_i k; exact .mk S' (by rw [show min a b = b by lia]; exact vr_int) g h
 ·rename_i k; exact .mk S' (by rw [show min a b = a by lia]; exact vr_int) g h
theorem wc_abs {a : Int} (h : Q (.int (if a < 0 then -a else a)) H) : WC X n (.builtin "abs") [.int a] H Q := fun A P s vals r S rv => by
 obtain ⟨x, rfl, t, ea⟩ := rv.one
 subst ea
 exact PyProof.Rows.call_abs_int (fun u tk => .mk (S.toks _) vr_int (Grow.refl _) h)
theorem wc_int {a : Int} (h : Q (.int a) H) : WC X n (.type "int") [.int a] H Q := fun A P s vals r S rv => by
 obtain ⟨x, rfl, t, ea⟩ := rv.one
 subst ea
 exact PySem.call_int_int (.mk S vr_int (Grow.refl _) h)
theorem wc_ord {x : Str} (h1 : x.length = 1) (h : Q (.int (x.cps.getD 0 0 : Nat)) H) : WC X n (.builtin "ord") [.str x] H Q := fun A P s vals r S rv => by
 obtain ⟨y, rfl, t, ea⟩ := rv.one
 subst ea
 exact ord_of_one h1 (.mk (S.toks _) vr_int (Grow.refl _) h)
theorem wc_tupL {a : Addr} {vs : List V} (e : H a = some (.list vs)) (hl : vs.length <= 10000000) (h : Q (.tup vs) H) : WC X n (.type "tuple") [.ref a] H Q := fun A P s vals r S rv => by
 obtain ⟨x, rfl, ra⟩ := rv.one
 rw [show x = _ from ra]
 refine cps fun G0 z0 => ?_
 obtain ⟨xs, m, ho, rs⟩ := (S.cell _ _ e).2
 refine z0 ?_
 clear z0
 refine call_tuple_list (items := xs.toArray) ⟨_, ho, rfl, m, rfl⟩ (fun h' hk => ?_) (by rw [List.size_toArray, rs.length]; exact le_line hl)
 obtain ⟨S', g⟩ := S.grown hk (tk := s.toks)
 exact .mk (S'.push _) (vr_tup (m := 0) (Heap.get?_push_size _ rfl) ((rs.grow g).grow (Grow.push _ _))) (g.trans (Grow.push _ _)) h
theorem wc_tupT {vs : List V} (h : Q (.tup vs) H) : WC X n (.type "tuple") [.tup vs] H Q := fun A P s vals r S rv => by
 refine cps fun G0 z0 => ?_
 obtain ⟨x, rfl, a, xs, m, ea, ho, rs⟩ := rv.one
 refine z0 ?_
 clear z0
 subst ea
 exact call_tuple_same ⟨_, ho, rfl, m, rfl⟩ (PV.mk S (vr_tup ho rs) (Grow.refl _) h)
theorem list_of {A : Around} {P : Pin} {s : Shared} (S : St X P H s) {it : Addr} {T : String} {o : Obj} {xs : List Value} {m : Nat} {vs : List V} (hT : T = "list" \/ T = "tuple") (ho : s.heap.get? it = some o) (hc : o.cls = .type T) (hd : o.data = .seq xs.toArray m) (rs : VRs s.heap vs xs)
  (hl : vs.length <= 10000000) (h : ∀ c, H c = none -> Q (.ref c) (H.set c (.list vs))) : wpAny (MM X) A (call (.type "list") [.ref it]) (PV X P s.heap Q) noE s := by
 refine call_list_seq it hT ho hc hd (fun h' c' hk hn => ?_) (by rw [List.size_toArray, rs.length]; exact le_line hl)
 obtain ⟨S', g⟩ := S.grown hk (tk := s.toks)
 have z := S.none_size
 refine .mk (H' := H.set s.heap.objs.size (.list vs)) ⟨S.base, S'.pin, fun a c e => ?_, S.gens, S.os⟩ vr_ref g (h _ z.1)
 unfold Hp.set at e
 split at e
 ·rename_i k; subst k; cases e; exact ⟨z.2, CR.list hn (rs.grow g)⟩
 ·exact S'.cell a c e
theorem wc_listL {a : Addr} {vs : List V} (e : H a = some (.list vs)) (hl : vs.length <= 10000000) (h : ∀ c, H c = none -> Q (.ref c) (H.set c (.list vs))) : WC X n (.type "list") [.ref a] H Q := fun A P s vals r S rv => by
 obtain ⟨x, rfl, ra⟩ := rv.one
 rw [show x = _ from ra]
 refine cps fun G0 z0 => ?_
 obtain ⟨xs, m, ho, rs⟩ := (S.cell _ _ e).2
 refine z0 ?_
 clear z0
 exact list_of S (.inl rfl) ho rfl rfl rs hl h
theorem wc_listT {vs : List V} (hl : vs.length <= 10000000) (h : ∀ c, H c = none -> Q (.ref c) (H.set c (.list vs))) : WC X n (.type "list") [.tup vs] H Q := fun A P s vals r S rv => by
 refine cps fun G0 z0 => ?_
 obtain ⟨x, rfl, a, xs, m, ea, ho, rs⟩ := rv.one
 refine z0 ?_
 clear z0
 subst ea
 exact list_of S (.inr rfl) ho rfl rfl rs hl h
theorem wc_dictD {a : Addr} {kvs : List (Int × V)} {ep : Nat} (e : H a = some (.dict kvs ep)) (hl : kvs.length <= 10000000) (h : ∀ c ep', H c = none -> Q (.ref c) (H.set c (.dict kvs ep'))) : WC X n (.type "dict") [.ref a] H Q := fun A P s vals r S rv => by
 obtain ⟨x, rfl, ra⟩ := rv.one
 rw [show x = _ from ra]
 obtain ⟨es, ho, rs⟩ := (S.cell _ _ e).2
 refine kt_call_dict (knd := knd X.w) (S.notSys e) ho.dictOf (by rw [rs.len]; exact le_line hl) (fun h' hd hs => ?_)
 obtain ⟨ep', hd⟩ := hd.dictAt
 have z := S.none_size
 have hk : ∀ b o, s.heap.get? b = some o -> h'.get? b = some o := fun b o q => (hs.2 b (Nat.ne_of_lt (Heap.lt_size q))).trans (Heap.get?_push_of_some _ q)
 obtain ⟨S', g⟩ := S.grown hk (tk := s.toks)
 refine .mk (H' := H.set s.heap.objs.size (.dict kvs ep')) ⟨S.base, S'.pin, fun a c e => ?_, S.gens, S.os⟩ vr_ref g (h _ _ z.1)
 unfold Hp.set at e
 split at e
 ·rename_i k; subst k; cases e; exact ⟨z.2, CR.dict hd (rs.grow g)⟩
 ·exact S'.cell a c e
theorem VRs.ints {h : Heap} {ns : List Int} : ∀ {xs}, VRs h (ns.map V.int) xs -> IntsAre xs ns := by
 induction ns with
 | nil => exact fun e => (show _ = _ from e) ▸ .nil
 | cons i ns ih => exact fun q => q.elim fun x q => q.elim fun r q => q.2.1.elim fun t a => q.1 ▸ a ▸ .cons _ _ (ih q.2.2)
theorem wc_bytes {a : Addr} {ns : List Int} (e : H a = some (.list (ns.map V.int))) (hr : ∀ i ∈ ns, 0 <= i /\ i < 256) (hl : ns.length <= 10000000) (h : Q (.bytes (byteArr ns)) H) : WC X n (.type "bytes") [.ref a] H Q := fun A P s vals r S rv => by
 obtain ⟨x, rfl, ra⟩ := rv.one
 rw [show x = _ from ra]
 refine cps fun G0 z0 => ?_
 obtain ⟨xs, m, ho, rs⟩ := (S.cell _ _ e).2
 refine z0 ?_
 clear z0
 refine call_bytes_ints (vs := xs) ⟨_, ho, rfl, m, rfl⟩ rs.ints hr (by rw [rs.length, List.length_map]; exact le_line hl) r.hd (fun h' t k hk => ?_)
 obtain ⟨S', g⟩ := S.grown hk (tk := k)
 exact .mk S' vr_bytes g h
end
end
section
noncomputable def pinAt (P : Pin) (a : Addr) (o : Obj) : Pin := fun b => if b = a then some o else P b
noncomputable def unpin (P : Pin) (a : Addr) : Pin := fun b => if b = a then none else P b
theorem pinAt_le {P : Pin} {a : Addr} {o : Obj} (e : P a = none) : ∀ b o', P b = some o' -> pinAt P a o b = some o' := fun b o' q => by
 unfold pinAt; split
 ·rename_i k; rw [k, e] at q; cases q
 ·exact q
section
variable {X : Wd} {P : Pin} {H : Hp} {s : Shared}
theorem St.fresh (S : St X P H s) {a : Addr} (e : P a = none) : X.B.get? a = none := by
 cases q : X.B.get? a with
 | none => rfl
 | some o => have := S.base _ _ q; rw [e] at this; cases this
theorem St.pinIn (S : St X P H s) {a : Addr} {o : Obj} (e : P a = none) (eh : H a = none) (q : s.heap.get? a = some o) : St X (pinAt P a o) H s :=
 ⟨fun b o' k => pinAt_le e _ _ (S.base b o' k), fun b o' k => by
  unfold pinAt at k; split at k
  ·rename_i z; subst z; cases k; exact q
  ·exact S.pin b o' k, fun b c k => ⟨by
  have : b ≠ a := fun z => by rw [z, eh] at k; cases k
  simp [pinAt, this, (S.cell b c k).1], (S.cell b c k).2⟩, S.gens, S.os⟩
theorem St.unpin (S : St X P H s) {a : Addr} (e : X.B.get? a = none) : St X (unpin P a) H s :=
 S.drop (fun b o k => by
  have : b ≠ a := fun z => by rw [z, e] at k; cases k
  simp [Mine.unpin, this, S.base b o k]) fun b o k => by
  unfold Mine.unpin at k; split at k
  ·cases k
  ·exact k
theorem St.notCell (S : St X P H s) {a : Addr} {o : Obj} (e : P a = some o) : H a = none := by
 cases q : H a with
 | none => rfl
 | some c => have := (S.cell _ _ q).1; rw [e] at this; cases this
theorem St.extBut (S : St X P H s) {a : Addr} (e : P a = none) (eh : H a = none) {h' : Heap} (x : Heap.ExtBut a s.heap h') (hn : ∀ o, s.heap.get? a = some o -> notTup o) {tk : Nat} : St X P H { s with heap := h', toks := tk } /\ Grow s.heap h' := by
 have g : Grow s.heap h' := fun b xs m q => by
  by_cases z : b = a
  ·subst z; exact absurd rfl (hn _ q xs m)
  ·exact x b _ z q
 refine ⟨⟨S.base, fun b o q => ?_, fun b c q => ?_, S.gens, S.os⟩, g⟩
 ·have : b ≠ a := fun z => by rw [z, e] at q; cases q
  exact x b o this (S.pin b o q)
 ·have : b ≠ a := fun z => by rw [z, eh] at q; cases q
  obtain ⟨o, k, _⟩ := (S.cell b c q).2.some
  exact ⟨(S.cell b c q).1, (S.cell b c q).2.mono g ((x b o this k).trans k.symm)⟩
theorem FrOK.pins {fi : FI} {P' : Pin} {env : Env} {F : Frame} {h : Heap} (f : FrOK X fi P env F h) (e : ∀ a o, P a = some o -> P' a = some o) : FrOK X fi P' env F h :=
 ⟨f.nL, f.nC, f.fresh, (f.loc).elim fun o q1 => q1.elim fun m q2 => q2.elim fun a r => ⟨o, m, e _ _ a, r⟩, fun p hp => (f.cel p hp).elim fun c q1 => q1.elim fun o q2 => q2.elim fun u q3 => q3.elim fun a q4 => q4.elim fun b r => ⟨c, o, u, a, e _ _ b, r⟩, f.inj⟩
noncomputable def Apart (fi : FI) (env : Env) (a : Addr) : Prop := a ≠ env.locals /\ ∀ x ∈ fi.C, ∀ c, env.cells.lookup x = some c -> a ≠ c
theorem PSame.keep {fi : FI} {env : Env} {P P' : Pin} (p : PSame fi env P P') {a : Addr} (x : Apart fi env a) : P' a = P a := p a x.1 x.2
theorem PSame.pinned {fi : FI} {env : Env} {P P' : Pin} {a : Addr} {o : Obj} (p : PSame fi env (pinAt P a o) P') (e : P a = none) : PSame fi env P (unpin P' a) := fun b h1 h2 => by
 unfold unpin
 split
 ·rename_i k; rw [k, e]
 ·rename_i k; rw [p b h1 h2]; unfold pinAt; rw [if_neg k]
end
structure Itr (X : Wd) (it : Addr) (K : Hp -> Prop) (D : List V -> Heap -> Prop) : Prop where
 live : ∀ vs h, D vs h -> ∃ o, h.get? it = some o /\ notTup o
 frame : ∀ vs h h', D vs h -> Grow h h' -> h'.get? it = h.get? it -> D vs h'
 item : ∀ A P H s v vs (Q : Option Value -> Shared -> Prop) E, Around.handled A = none -> St X P H s -> K H -> D (v :: vs) s.heap ->
  (∀ x h' tk, VR h' v x -> D vs h' -> Heap.ExtBut it s.heap h' -> Q (some x) { s with heap := h', toks := tk }) -> wpAny (MM X) A (pyNext (.ref it)) Q E s
 done : ∀ A P H s (Q : Option Value -> Shared -> Prop) E, Around.handled A = none -> St X P H s -> K H -> D [] s.heap ->
  (∀ h' tk, Heap.ExtBut it s.heap h' -> Q none { s with heap := h', toks := tk }) -> wpAny (MM X) A (pyNext (.ref it)) Q E s
 self : ∀ A s vs (Q : Value -> Shared -> Prop) E, D vs s.heap -> Q (.ref it) s -> wpAny (MM X) A (pyIter (.ref it)) Q E s
inductive WIQ (X : Wd) (P : Pin) (h : Heap) (H : Hp) (vs : List V) (K : Hp -> Prop) (it : Value) (s' : Shared) : Prop
 | i (a : Addr) (D : List V -> Heap -> Prop) (e : it = .ref a) (T : Itr X a K D) (d : D vs s'.heap) (S : St X P H s') (g : Grow h s'.heap) (p : P a = none) (n : H a = none)
noncomputable def WIt (X : Wd) (n : Nat) (v : V) (H : Hp) (vs : List V) (K : Hp -> Prop) : Prop := ∀ A P s u, Room n A -> St X P H s -> VR s.heap v u ->
 wpAny (MM X) A (pyIter u) (WIQ X P s.heap H vs K) noE s
section
variable {X : Wd} {n : Nat} {fi : FI} {env : Env} {F : Frame} {H : Hp}
theorem drop_cons {α} {l : List α} {i : Nat} {v : α} {vs : List α} (e : l.drop i = v :: vs) : l[i]? = some v /\ l.drop (i + 1) = vs :=
 ⟨(List.getElem?_drop (xs := l) (i := i) (j := 0)).symm.trans (congrArg (·[0]?) e), (List.drop_drop (i := 1) (j := i) (l := l)).symm.trans (congrArg (List.drop 1) e)⟩
theorem Itr.list (it l : Addr) (all : List V) : Itr X it (fun H => H l = some (.list all)) (fun vs h => ∃ i, h.IsListIter it l i /\ all.drop i = vs) where
 live := fun vs h q => q.elim fun i q => q.1.elim fun o q => ⟨o, q.1, fun O O e => by have c := q.2.2; rw [e] at c; cases c⟩
 frame := fun vs h h' q O e => q.elim fun i q => ⟨i, q.1.elim fun o q => ⟨o, e.trans q.1, q.2⟩, q.2⟩
 item := fun A P H s v vs Q E hh S hK q hQ => q.elim fun i q => by
  have hi := q.1
  have hd := q.2
  obtain ⟨xs, m, ho, rs⟩ := (S.cell _ _ hK).2
  obtain ⟨hv, hd'⟩ := drop_cons hd
  obtain ⟨x, hx, rx⟩ := rs.get hv
  refine wpAny_pyNext_list_item hi ⟨_, ho, rfl, m, rfl⟩ (by simpa using hx) fun h' hi' hs' => ?_
  refine hQ x h' s.toks (rx.grow ?_) ⟨i + 1, hi', hd'⟩ hs'.extBut
  obtain ⟨o, a, b, c⟩ := hi
  exact grow_same a (fun O O e => by rw [e] at c; cases c) hs'
 done := fun A P H s Q E hh S hK q hQ => q.elim fun i q => by
  have hi := q.1
  have hd := q.2
  refine cps fun G0 z0 => ?_
  obtain ⟨xs, m, ho, rs⟩ := (S.cell _ _ hK).2
  refine z0 ?_
  clear z0
  have hl := rs.length
  refine wpAny_pyNext_list_end hh hi ⟨_, ho, rfl, m, rfl⟩ ?_ fun h' he => hQ h' s.toks he
  have := List.drop_eq_nil_iff.mp hd
  simp; lia
 self := fun A s vs Q E q h => q.elim fun i q => wpAny_pyIter_listiter q.1 h
theorem Itr.tup (it t : Addr) (all : List V) (xs : List Value) (m : Nat) : Itr X it (fun O => True) (fun vs h => ∃ i, h.IsTupleIter it t i /\ h.get? t = some (tupO xs m) /\ VRs h all xs /\ all.drop i = vs) where
 live := fun vs h q => q.elim fun i q => q.1.elim fun o q => ⟨o, q.1, fun O O e => by have c := q.2.2; rw [e] at c; cases c⟩
 frame := fun vs h h' q g e => q.elim fun i q => ⟨i, q.1.elim fun o q => ⟨o, e.trans q.1, q.2⟩, g _ _ _ q.2.1, q.2.2.1.grow g, q.2.2.2⟩
 item := fun A P H s v vs Q E hh S hK q hQ => q.elim fun i q => by
  have hi := q.1
  have ho := q.2.1
  have rs := q.2.2.1
  have hd := q.2.2.2
  clear q
  obtain ⟨hv, hd'⟩ := drop_cons hd
  obtain ⟨x, hx, rx⟩ := rs.get hv
  refine wpAny_pyNext_tuple_item hi ⟨_, ho, rfl, m, rfl⟩ (by simpa using hx) fun h' hi' hs' => ?_
  have g : Grow s.heap h' := by
   obtain ⟨o, a, b, c⟩ := hi
   exact grow_same a (fun O O e => by rw [e] at c; cases c) hs'
  exact hQ x h' s.toks (rx.grow g) ⟨i + 1, hi', g _ _ _ ho, rs.grow g, hd'⟩ hs'.extBut
 done := fun A P H s Q E hh S hK q hQ => q.elim fun i q => by
  have hi := q.1
  have ho := q.2.1
  have rs := q.2.2.1
  have hd := q.2.2.2
  clear q
  have hl := rs.length
  refine wpAny_pyNext_tuple_end hh hi ⟨_, ho, rfl, m, rfl⟩ ?_ fun h' he => hQ h' s.toks he
  have := List.drop_eq_nil_iff.mp hd
  simp; lia
 self := fun A s vs Q E q h => q.elim fun i q => wpAny_pyIter_tupleiter q.1 h
noncomputable def rangeL (x step : Int) : Nat -> List V
 | 0 => []
 | k + 1 => .int x :: rangeL (x + step) step k
theorem Itr.range (it : Addr) (step : Int) : Itr X it (fun O => True) (fun vs h => ∃ x k, IsRangeIter h it x (k : Nat) step /\ vs = rangeL x step k) where
 live := fun vs h q => q.elim fun x q => q.elim fun k q => ⟨_, q.1, fun O O e => by simp at e⟩
 frame := fun vs h h' q g e => q.elim fun x q => q.elim fun k q => ⟨x, k, e.trans q.1, q.2⟩
 item := fun A P H s v vs Q E hh S hK q hQ => q.elim fun x q => q.elim fun k q => by
  have hi := q.1
  have hd := q.2
  clear q
  cases k with
  | zero => cases hd
  | succ k =>
   cases hd
   refine wpAny_pyNext_range_item hi (by lia) fun h' hi' hs' => ?_
   exact hQ _ h' _ vr_int ⟨x + step, k, by rw [show ((k + 1 : Nat) : Int) - 1 = (k : Nat) by lia] at hi'; exact hi', rfl⟩ hs'.extBut
 done := fun A P H s Q E hh S hK q hQ => q.elim fun x q => q.elim fun k q => by
  have hi := q.1
  have hd := q.2
  clear q
  induction k with
  | succ k => cases hd
  | zero => exact wpAny_pyNext_range_end hh hi (by simp) fun h' he => hQ h' s.toks he
 self := fun A s vs Q E q h => q.elim fun x q => q.elim fun k q => wpAny_pyIter_rangeiter q.1 h
theorem wit_list {l : Addr} {vs : List V} (e : H l = some (.list vs)) : WIt X n (.ref l) H vs (fun H => H l = some (.list vs)) := fun A P s u r S ru => by
 rw [show u = _ from ru]
 refine cps fun G0 z0 => ?_
 obtain ⟨xs, m, ho, rs⟩ := (S.cell _ _ e).2
 refine z0 ?_
 clear z0
 refine wpAny_pyIter_list ⟨_, ho, rfl, m, rfl⟩ ⟨_, _, rfl, Itr.list _ l vs, ⟨0, ⟨_, Heap.get?_push_size _ rfl, rfl, rfl⟩, rfl⟩, S.push _, Grow.push _ _, S.none_size.2, S.none_size.1⟩
theorem wit_tup {vs : List V} : WIt X n (.tup vs) H vs (fun O => True) := fun A P s u r S q0 => q0.elim fun t q1 => q1.elim fun xs q2 => q2.elim fun m q3 => q3.elim fun eu q4 => q4.elim fun ho rs => by
 subst eu
 refine wpAny_pyIter_tuple ⟨_, ho, rfl, m, rfl⟩ ⟨_, _, rfl, Itr.tup _ t vs xs m, ⟨0, ⟨_, Heap.get?_push_size _ rfl, rfl, rfl⟩, Grow.push _ _ _ _ _ ho, rs.grow (Grow.push _ _), rfl⟩, S.push _, Grow.push _ _, S.none_size.2, S.none_size.1⟩
theorem wit_range {l : Addr} {a b c : Int} (e : H l = some (.rng a b c)) (hs : Builtin.Range.small a b c = true) (k : Nat) (hk : Builtin.Range.rangeSize a b c = k) : WIt X n (.ref l) H (rangeL a c k) (fun O => True) := fun A P s u r S ru => by
 rw [show u = _ from ru]
 refine cps fun G0 z0 => ?_
 obtain ⟨t, v, w, ho⟩ := (S.cell _ _ e).2
 refine z0 ?_
 clear z0
 exact wpAny_pyIter_range ho hs ⟨_, _, rfl, Itr.range _ c, ⟨a, k, by rw [<- hk]; exact Heap.get?_push_size _ rfl, rfl⟩, S.push _, Grow.push _ _, S.none_size.2, S.none_size.1⟩
theorem wc_range3 {a b c : Int} {Q : V -> Hp -> Prop} (hc : c ≠ 0) (hp : Builtin.divisionGoesByPylong (b - a) c = false) (h : ∀ r, H r = none -> Q (.ref r) (H.set r (.rng a b c))) : WC X n (.type "range") [.int a, .int b, .int c] H Q := fun A P s vals r S rv => by
 refine cps fun G0 z0 => ?_
 obtain ⟨x, l, rfl, ⟨t, ea⟩, rv⟩ := rv
 obtain ⟨y, z, rfl, ⟨u, eb⟩, ⟨v, ec⟩⟩ := VRs.pair rv
 refine z0 ?_
 clear z0
 subst ea eb ec
 exact call_range_3 hc (.mk (S.alloc (c := .rng a b c) ⟨t, u, v, Heap.get?_push_size _ rfl⟩) vr_ref (Grow.push _ _) (h _ S.none_size.1)) (.inl hp)
theorem wc_range1 {b : Int} {Q : V -> Hp -> Prop} (h : ∀ r, H r = none -> Q (.ref r) (H.set r (.rng 0 b 1))) : WC X n (.type "range") [.int b] H Q := fun A P s vals r S rv => by
 obtain ⟨x, rfl, ⟨t, ea⟩⟩ := rv.one
 subst ea
 exact call_range_1 (.mk ((S.alloc (c := .rng 0 b 1) ⟨_, _, _, Heap.get?_push_size _ rfl⟩).toks _) vr_ref (Grow.push _ _) (h _ S.none_size.1))
theorem wc_range2 {a b : Int} {Q : V -> Hp -> Prop} (h : ∀ r, H r = none -> Q (.ref r) (H.set r (.rng a b 1))) : WC X n (.type "range") [.int a, .int b] H Q := fun A P s vals r S rv => by
 obtain ⟨x, y, rfl, ⟨t, ea⟩, ⟨u, eb⟩⟩ := rv.pair
 subst ea eb
 exact call_range_2 (.mk ((S.alloc (c := .rng a b 1) ⟨_, _, _, Heap.get?_push_size _ rfl⟩).toks _) vr_ref (Grow.push _ _) (h _ S.none_size.1))
theorem FrOK.apart {P : Pin} {h : Heap} (f : FrOK X fi P env F h) {a : Addr} (e : P a = none) : a ≠ env.locals /\ ∀ p ∈ F.C, ∀ c, env.cells.lookup p.1 = some c -> a ≠ c := by
 refine ⟨fun k => ?_, fun p hp c hc k => ?_⟩
 ·obtain ⟨o, m, x, _⟩ := f.loc; rw [<- k, e] at x; cases x
 ·obtain ⟨c', o, u, x, y, _⟩ := f.cel p hp; rw [hc] at x; cases x; rw [<- k, e] at y; cases y
theorem FrOK.apart' {P : Pin} {h : Heap} (f : FrOK X fi P env F h) {a : Addr} (e : P a = none) : Apart fi env a := by
 obtain ⟨h1, h2⟩ := f.apart e
 refine ⟨h1, fun x hx c hc => ?_⟩
 obtain ⟨p, hp, rfl⟩ := List.mem_map.mp (show x ∈ F.C.map (·.1) from f.nC ▸ List.mem_append_left _ hx)
 exact h2 p hp c hc
theorem FrOK.unpin {P : Pin} {h : Heap} (f : FrOK X fi P env F h) {a : Addr} (h1 : a ≠ env.locals) (h2 : ∀ p ∈ F.C, ∀ c, env.cells.lookup p.1 = some c -> a ≠ c) : FrOK X fi (Mine.unpin P a) env F h := by
 refine ⟨f.nL, f.nC, f.fresh, ?_, fun p hp => ?_, f.inj⟩
 ·obtain ⟨o, m, x, r⟩ := f.loc
  exact ⟨o, m, by simp [Mine.unpin, Ne.symm h1, x], r⟩
 ·refine cps fun G0 z0 => ?_
  obtain ⟨c', o, u, x, y, r⟩ := f.cel p hp
  refine z0 ?_
  clear z0
  exact ⟨c', o, u, x, by simp [Mine.unpin, Ne.symm (h2 p hp c' x), y], r⟩
theorem FrOK.apartC {F' : Frame} {P : Pin} {h : Heap} (f : FrOK X fi P env F h) {a : Addr} (h2 : ∀ p ∈ F'.C, ∀ c, env.cells.lookup p.1 = some c -> a ≠ c) (e : F'.C.map (·.1) = fi.C ++ fi.R) : ∀ p ∈ F.C, ∀ c, env.cells.lookup p.1 = some c -> a ≠ c := fun p hp c hc => by
 have : p.1 ∈ F'.C.map (·.1) := by rw [e, <- f.nC]; exact List.mem_map_of_mem (f := (·.1)) hp
 obtain ⟨q, hq, k⟩ := List.mem_map.mp this
 exact h2 q hq c (k ▸ hc)
noncomputable def LQ (I : Frame -> Hp -> Prop) (Q : Fl -> Frame -> Hp -> Prop) (fl : Fl) (F : Frame) (H : Hp) : Prop := match fl with
 | .next => I F H
 | .cont => I F H
 | .brk => Q .next F H
 | .ret w => Q (.ret w) F H
theorem lp_post {fl : Flow} {f6 : Fl} {h : Heap} {I : Frame -> Hp -> Prop} {Q : Fl -> Frame -> Hp -> Prop} {F6 : Frame} {H6 : Hp} {A : Prop} {B : Flow -> Prop} (rf : FlR h f6 fl) (q : LQ I Q f6 F6 H6) (hi : I F6 H6 -> A) (hq : ∀ f' g, FlR h f' g -> Q f' F6 H6 -> B g) :
  match (generalizing := false) fl with | .next | .cont => A | .brk => B .next | .ret v => B (.ret v) := by
 induction f6 with
 | next => rw [show fl = _ from rf]; exact hi q
 | cont => rw [show fl = _ from rf]; exact hi q
 | brk => rw [show fl = _ from rf]; exact hq .next .next rfl q
 | ret w => exact rf.elim fun y k => by rw [k.1]; exact hq (.ret w) _ ⟨y, rfl, k.2⟩ q
theorem unpin_self {P : Pin} {a : Addr} : Mine.unpin P a a = none := if_pos rfl
theorem pinAt_self {P : Pin} {a : Addr} {o : Obj} : pinAt P a o a = some o := if_pos rfl
structure FoS (X : Wd) (fi : FI) (env : Env) (P : Pin) (h₀ : Heap) (it : Addr) (F' : Frame) (H' : Hp) (P' : Pin) (t : Shared) : Prop where
 ps : PSame fi env P P'
 n : P' it = none
 nh : H' it = none
 S : St X P' H' t
 f : FrOK X fi P' env F' t.heap
 g : Grow h₀ t.heap
theorem FoS.out {P P' : Pin} {h₀ : Heap} {it : Addr} {F' : Frame} {H' : Hp} {t : Shared} (o : FoS X fi env P h₀ it F' H' P' t) {o3 : Obj} {P6 : Pin} {F6 : Frame} {H6 : Hp} {s₆ : Shared} (S6 : St X P6 H6 s₆) (fr6 : FrOK X fi P6 env F6 s₆.heap) (pp : PSame fi env (pinAt P' it o3) P6) (g : Grow t.heap s₆.heap) :
  FoS X fi env P h₀ it F6 H6 (Mine.unpin P6 it) s₆ /\ s₆.heap.get? it = some o3 := by
 have ap := o.f.apart o.n
 have e := (pp.keep (o.f.apart' o.n)).trans pinAt_self
 exact ⟨⟨o.ps.trans (pp.pinned o.n), unpin_self, S6.notCell e, S6.unpin (o.S.fresh o.n), fr6.unpin ap.1 (fr6.apartC ap.2 o.f.nC), o.g.trans g⟩, S6.pin _ _ e⟩
structure ItF (X : Wd) (it : Addr) (K : Hp -> Prop) (D : List V -> Heap -> Prop) (go : Value -> Sem Unit) : Prop where
 live : ∀ vs h, D vs h -> ∃ o, h.get? it = some o /\ notTup o
 frame : ∀ vs h h', D vs h -> Grow h h' -> h'.get? it = h.get? it -> D vs h'
 item : ∀ A P H s v vs (N : Shared -> Prop) (Q : Value -> Shared -> Prop) E E2, Around.handled A = none -> St X P H s -> K H -> D (v :: vs) s.heap ->
  (∀ x h' tk, VR h' v x -> D vs h' -> Heap.ExtBut it s.heap h' -> Q x { s with heap := h', toks := tk }) -> wpAny (MM X) A (pyNext (.ref it)) (fun r s₁ => match r with | none => N s₁ | some u => wpAny (MM X) A (go u) (fun O s₂ => Q u s₂) E2 s₁) E s
 done : ∀ A P H s (N : Shared -> Prop) (M : Value -> Shared -> Prop) E, Around.handled A = none -> St X P H s -> K H -> D [] s.heap ->
  (∀ h' tk, Heap.ExtBut it s.heap h' -> N { s with heap := h', toks := tk }) -> wpAny (MM X) A (pyNext (.ref it)) (fun r s₁ => match r with | none => N s₁ | some u => M u s₁) E s
theorem Itr.for_ {it : Addr} {K : Hp -> Prop} {D : List V -> Heap -> Prop} (T : Itr X it K D) {go : Value -> Sem Unit} (ht : ∀ v, go v = pure ()) : ItF X it K D go :=
 ⟨T.live, T.frame, fun A P H s v vs N Q E E2 hh S k d h => T.item A P H s v vs _ E hh S k d fun x h' tk r d' e => by show wpAny _ _ (go x) _ _ _; rw [ht]; exact wpAny_pure (h x h' tk r d' e),
  fun A P H s N M E hh S k d h => T.done A P H s _ E hh S k d h⟩
inductive WItQ (X : Wd) (P : Pin) (h : Heap) (H : Hp) (vs : List V) (K : Hp -> Prop) (go : Value -> Value -> Sem Unit) (it : Value) (s' : Shared) : Prop
 | i (a : Addr) (D : List V -> Heap -> Prop) (e : it = .ref a) (T : ItF X a K D (go it)) (d : D vs s'.heap) (S : St X P H s') (g : Grow h s'.heap) (p : P a = none) (n : H a = none)
noncomputable def WItF (X : Wd) (n : Nat) (v : V) (H : Hp) (vs : List V) (K : Hp -> Prop) (go : Value -> Value -> Sem Unit) : Prop := ∀ A P s u, Room n A -> St X P H s -> VR s.heap v u ->
 wpAny (MM X) A (pyIter u) (WItQ X P s.heap H vs K go) noE s
theorem WIt.for_ {v : V} {vs : List V} {K : Hp -> Prop} (h : WIt X n v H vs K) {go : Value -> Value -> Sem Unit} (ht : ∀ it v, go it v = pure ()) : WItF X n v H vs K go := fun A P s u r S ru =>
 wpAny_mono (h A P s u r S ru) (fun it s' q => q.rec fun a D e T d S g p n => ⟨a, D, e, T.for_ (ht it), d, S, g, p, n⟩) fun O O x => x
inductive ForR (X : Wd) (n : Nat) (fi : FI) (env : Env) (target : Expr) (body : List Stmt) (Q : Fl -> Frame -> Hp -> Prop) (F : Frame) (v : V) (H₁ : Hp) : Prop
 | i (vs : List V) (K : Hp -> Prop) (I : List V -> Frame -> Hp -> Prop) (w : WItF X n v H₁ vs K (letOwnedTupleGo target)) (h : I vs F H₁) (k : ∀ r F' H', I r F' H' -> K H') (d : ∀ F' H', I [] F' H' -> Q .next F' H')
  (t : ∀ v r F' H', I (v :: r) F' H' -> WA X n fi env F' target v H' (fun F2 H2 => WS X n fi env F2 body H2 (LQ (I r) Q)))
theorem wx_for {target iter : Expr} {body : List Stmt} {pos : Pos} {Q : Fl -> Frame -> Hp -> Prop} (h : WE X n fi env F iter H (ForR X n fi env target body Q F)) (hs : ∀ x, foldedSetIterable iter env x = pure x) : WX X n fi env F (.For target iter body [] pos) H Q := fun E A P s r S f =>
 wpAny_For (wpAny_mono (h E A P s r S f) (fun u s₁ p0 => p0.rec fun v H₁ ru S₁ g₁ q0 => q0.rec fun vs K I hW hI hK hD hT =>
  wpAny_mono (hW A P s₁ u r S₁ ru) (fun it s₂ q => q.rec fun a D eit T d0 S₂ g₂ pa ha => by
   subst eit
   refine codeAny_forLoop_any (fun k t => ∃ rem F' H' P', rem.length = k /\ FoS X fi env P s.heap a F' H' P' t /\ D rem t.heap /\ I rem F' H') (fun k t hI => ?_) vs.length
    ⟨vs, F, H₁, P, rfl, ⟨.refl _ _ _, pa, ha, S₂, f.grow (g₁.trans g₂), g₁.trans g₂⟩, d0, hI⟩
   refine cps fun G z => ?_
   obtain ⟨rem, F', H', P', rfl, o, d, hi⟩ := hI
   obtain ⟨oi, ho, no⟩ := T.live _ _ d
   have no : ∀ o', t.heap.get? a = some o' -> notTup o' := fun o' e => by rw [ho] at e; cases e; exact no
   refine z ?_
   clear z hI
   induction rem with
   | nil =>
    refine T.done A P' H' t _ _ _ r.hd o.S (hK _ _ _ hi) d fun h' tk hx => ?_
    have q := o.S.extBut o.n o.nh hx no (tk := tk)
    exact wpAny_execs_nil ⟨.next, F', H', P', rfl, o.ps, q.1, o.f.grow q.2, o.g.trans q.2, hD _ _ hi⟩
   | cons v rem =>
    refine T.item A P' H' t v rem _ _ _ _ r.hd o.S (hK _ _ _ hi) d fun x h' tk rx d' hx => ?_
    refine cps fun G z => ?_
    have q := o.S.extBut o.n o.nh hx no (tk := tk)
    obtain ⟨o3, ho3, no3⟩ := T.live _ _ d'
    refine z (wpAny_mono (hT v rem F' H' hi E A _ _ x r (q.1.pinIn (o := o3) o.n o.nh ho3) ((o.f.grow q.2).pins (pinAt_le o.n)) rx) (fun O s₅ p0 => p0.rec fun F5 H5 P5 p5 S5 f5 g5 q5 => ?_) fun O O e => e.elim)
    refine wpAny_mono (q5 E A P5 s₅ r S5 f5) (fun fl s₆ p0 => p0.rec fun f6 F6 H6 P6 rf p6 S6 fr6 g6 q6 => ?_) fun O O e => e.elim
    have b := o.out S6 fr6 (p5.trans p6) (q.2.trans (g5.trans g6))
    exact lp_post (B := fun g => PS X fi env P s.heap Q g s₆) rf q6 (fun i => ⟨rem.length, Nat.lt_succ_self _, rem, F6, H6, _, rfl, b.1, T.frame _ _ _ d' (g5.trans g6) (b.2.trans ho3.symm), i⟩) fun f' g rg k => ⟨f', F6, H6, _, rg, b.1.ps, b.1.S, b.1.f, b.1.g, k⟩) fun O O x => x.elim) fun O O x => x) hs
theorem wx_while {test : Expr} {body : List Stmt} {pos : Pos} {Q : Fl -> Frame -> Hp -> Prop} (I : Nat -> Frame -> Hp -> Prop) (k : Nat) (h0 : I k F H)
  (h : ∀ k F' H', I k F' H' -> WT X n fi env F' test H' (fun b H₁ => (b = true -> WS X n fi env F' body H₁ (LQ (fun F3 H3 => ∃ m, m < k /\ I m F3 H3) Q)) /\ (b = false -> Q .next F' H₁))) :
  WX X n fi env F (.While test body [] pos) H Q := fun E A P s r S f =>
 wpAny_While (codeAny_whileLoop (fun k t => PS X fi env P s.heap (fun O => I k) .next t) (fun k t q => q.rec fun f0 F' H' P' O ps St' f' g' hi =>
  wpAny_mono (h k F' H' hi E A P' t r St' f') (fun b s₂ p0 => p0.rec fun H₂ S₂ g₂ q => by
   induction b with
   | false => exact wpAny_execs_nil ⟨.next, F', H₂, P', rfl, ps, S₂, f'.grow g₂, g'.trans g₂, q.2 rfl⟩
   | true => exact wpAny_mono (q.1 rfl E A P' s₂ r S₂ (f'.grow g₂)) (fun fl s₆ p0 => p0.rec fun f6 F6 H6 P6 rf p6 S6 fr6 g6 q6 =>
     lp_post (B := fun g => PS X fi env P s.heap Q g s₆) rf q6 (fun q => q.elim fun m q => ⟨m, q.1, .next, F6, H6, P6, rfl, ps.trans p6, S6, fr6, (g'.trans g₂).trans g6, q.2⟩) fun f' g rg k => ⟨f', F6, H6, P6, rg, ps.trans p6, S6, fr6, (g'.trans g₂).trans g6, k⟩) fun O O e => e.elim) fun O O x => x.elim) k ⟨.next, F, H, P, rfl, .refl _ _ _, S, f, Grow.refl _, h0⟩)
end
end
section
noncomputable def ccChk (sc : Scope) (x : Str) (G : List (Str × Value)) (R : List Str) : Bool :=
 decide (sc.kind = .function) && (sc.names.all fun y => !decide (y.2 = .cell)) && (sc.names.all fun y => !decide (y.2 = .local) || decide (sc.names.lookup y.1 = some .local)) &&
 decide (sc.names.lookup x = some .local) && !(x == dbg) && (G.all fun p => decide (sc.names.lookup p.1 = some .globalImplicit) && !(p.1 == dbg)) &&
 (R.all fun y => decide (sc.names.lookup y = some .free) && !(y == dbg) && !(y == cdc)) && decide R.Nodup && (sc.names.all fun y => !decide (y.2 = .free) || R.contains y.1)
noncomputable def clos (ca : Str -> Addr) : List (Str × NameKind) -> List (Str × Addr) -> List (Str × Addr)
 | [], cs => cs
 | (n, k) :: r, cs => clos ca r (if k == .free then (n, ca n) :: cs else cs)
theorem closureFor_eq {scope : Scope} {env : Env} {ca : Str -> Addr} (h : ∀ x ∈ scope.names, x.2 = .free -> env.cells.lookup x.1 = some (ca x.1)) : closureFor scope env = pure (clos ca scope.names []) := by
 dsimp only [closureFor]
 have : ∀ (l : List (Str × NameKind)) (cs : List (Str × Addr)), (∀ x ∈ l, x.2 = .free -> env.cells.lookup x.1 = some (ca x.1)) ->
   (forIn l cs fun x cs => (match x with | (name, kind) => if (kind == NameKind.free) = true then do let a <- cellOf env name; pure (ForInStep.yield ((name, a) :: cs)) else pure (ForInStep.yield cs) : Sem (ForInStep (List (Str × Addr))))) = pure (clos ca l cs) := by
  intro l
  induction l with
  | nil => intro cs _; rfl
  | cons x l ih =>
   intro cs hx
   obtain ⟨nm, k⟩ := x
   rw [List.forIn_cons]
   show ((if (k == NameKind.free) = true then _ else _) >>= _) = pure (clos ca l (if k == .free then (nm, ca nm) :: cs else cs))
   cases hk : k == NameKind.free with
   | false => simp only [Bool.false_eq_true, if_false, pure_bind]; exact ih cs fun y hy => hx y (List.mem_cons_of_mem _ hy)
   | true =>
    have e := hx (nm, k) List.mem_cons_self (by induction k <;> first | rfl | cases hk)
    unfold cellOf
    rw [e]
    simp only [pure_bind]
    exact ih _ fun y hy => hx y (List.mem_cons_of_mem _ hy)
 have := this scope.names [] h
 simp only [bind_pure] at *
 exact this
theorem clos_ok {ca : Str -> Addr} (l : List (Str × NameKind)) : ∀ (cs : List (Str × Addr)), (∀ p ∈ cs, p.2 = ca p.1) -> ∀ p ∈ clos ca l cs, p.2 = ca p.1 := by
 induction l with
 | nil => exact fun O => id
 | cons q r ih =>
  refine fun cs h => ih _ ?_
  split
  ·exact fun p hp => (List.mem_cons.mp hp).elim (fun e => e ▸ rfl) (h p)
  ·exact h
theorem clos_mono {ca : Str -> Addr} (l : List (Str × NameKind)) : ∀ (cs : List (Str × Addr)), ∀ p ∈ cs, p ∈ clos ca l cs := by
 induction l with
 | nil => exact fun O O => id
 | cons q r ih => exact fun cs p hp => ih _ p (by split; exact List.mem_cons_of_mem _ hp; exact hp)
theorem clos_has {ca : Str -> Addr} {y : Str} (l : List (Str × NameKind)) : ∀ (cs : List (Str × Addr)), (y, NameKind.free) ∈ l -> (y, ca y) ∈ clos ca l cs := by
 induction l with
 | nil => exact fun O h => nil_no h
 | cons q r ih => exact fun cs h => (List.mem_cons.mp h).elim (fun e => e ▸ clos_mono r _ _ List.mem_cons_self) (ih _)
theorem lookup_fn {ca : Str -> Addr} {y : Str} {cs : List (Str × Addr)} : (∀ p ∈ cs, p.2 = ca p.1) -> (y, ca y) ∈ cs -> cs.lookup y = some (ca y) := by
 induction cs with
 | nil => exact fun O h => nil_no h
 | cons p r ih =>
  refine fun h e => ?_
  rw [List.lookup_cons]
  cases q : y == p.1 with
  | true => exact congrArg some ((h p List.mem_cons_self).trans (congrArg ca (eq_of_beq q).symm))
  | false => exact ih (fun p hp => h p (List.mem_cons_of_mem _ hp)) ((List.mem_cons.mp e).elim (fun e => nomatch q.symm.trans (e ▸ BEq.rfl : (y == p.1) = true)) id)
theorem lk_map {f : Str × NameKind -> Str × NameKind} (hf : ∀ p, (f p).1 = p.1) {l : List (Str × NameKind)} {x k} : l.lookup x = some k -> (l.map f).lookup x = some (f (x, k)).2 := by
 induction l with
 | nil => exact fun e => none_no e
 | cons p r ih =>
  rw [List.map_cons, List.lookup_cons, List.lookup_cons, hf]
  cases q : x == p.1 with
  | false => exact ih
  | true => exact fun e => eq_of_beq q ▸ Option.some.inj e ▸ rfl
theorem lookup_relabel_other {env : Env} {k : NameKind} (hk : k ≠ .free) {names : List (Str × NameKind)} {x : Str} (h : names.lookup x = some k) :
  (names.map fun (n, k) => if (k == NameKind.free && env.scope.kind == .function && env.kindOf n == some .cell) then (n, NameKind.cell) else (n, k)).lookup x = some k :=
 (lk_map (fun p => by show (if _ then _ else _ : Str × NameKind).1 = _; split <;> rfl) h).trans (congrArg (fun p : Str × NameKind => some p.2)
  (if_neg fun e => hk (eq_of_beq (Bool.and_eq_true_iff.mp (Bool.and_eq_true_iff.mp e).1).1)))
theorem lookup_relabel_free {env : Env} {names : List (Str × NameKind)} {x : Str} (h : names.lookup x = some .free) :
  (names.map fun (n, k) => if (k == NameKind.free && env.scope.kind == .function && env.kindOf n == some .cell) then (n, NameKind.cell) else (n, k)).lookup x = some .cell \/
  (names.map fun (n, k) => if (k == NameKind.free && env.scope.kind == .function && env.kindOf n == some .cell) then (n, NameKind.cell) else (n, k)).lookup x = some .free := by
 rw [lk_map (fun p => by show (if _ then _ else _ : Str × NameKind).1 = _; split <;> rfl) h]
 show some (if _ then _ else _ : Str × NameKind).2 = _ \/ some (if _ then _ else _ : Str × NameKind).2 = _
 split
 ·exact .inl rfl
 ·exact .inr rfl
section
variable (X : Wd) (n : Nat) (fi : FI) (env : Env)
noncomputable def WF (F : Frame) (ifs : List Expr) (H : Hp) (Q : Bool -> Hp -> Prop) : Prop :=
 EnvOK X env fi -> ∀ A P s, Room n A -> St X P H s -> FrOK X fi P env F s.heap ->
  wpAny (MM X) A (forIn ifs true fun c r => if r = true then do let ok <- isTrue c env (eval c env); pure (ForInStep.yield ok) else pure (ForInStep.yield r)) (PB X P s.heap Q) noE s
end
section
variable {X : Wd} {n : Nat} {fi : FI} {env : Env} {F : Frame} {H : Hp}
theorem wf_nil {Q : Bool -> Hp -> Prop} (h : Q true H) : WF X n fi env F [] H Q := fun E A P s r S f => wpAny_pure ⟨H, S, Grow.refl _, h⟩
theorem wf_one {c : Expr} {Q : Bool -> Hp -> Prop} (h : WT X n fi env F c H Q) : WF X n fi env F [c] H Q := fun E A P s r S f => wpAny_tests_one (h E A P s r S f)
structure CcK (sc : Scope) (x : Str) (G : List (Str × Value)) (R : List Str) : Prop where
 k : sc.kind = .function
 c : ∀ y ∈ sc.names, y.2 ≠ .cell
 l : ∀ y ∈ sc.names, y.2 = .local -> sc.names.lookup y.1 = some .local
 lx : sc.names.lookup x = some .local
 d : (x == dbg) = false
 g : ∀ p ∈ G, sc.names.lookup p.1 = some .globalImplicit /\ (p.1 == dbg) = false
 r : ∀ y ∈ R, (sc.names.lookup y = some .free /\ (y == dbg) = false) /\ (y == cdc) = false
 n : R.Nodup
 f : ∀ y ∈ sc.names, y.2 = .free -> y.1 ∈ R
theorem ccK {sc : Scope} {x : Str} {G : List (Str × Value)} {R : List Str} (h : ccChk sc x G R = true) : CcK sc x G R := by
 unfold ccChk at h
 simp only [Bool.and_eq_true, List.all_eq_true, decide_eq_true_eq, Bool.not_eq_true', Bool.or_eq_true, decide_eq_false_iff_not] at h
 obtain ⟨⟨⟨⟨⟨⟨⟨⟨h1, h2⟩, h3⟩, h4⟩, h5⟩, h6⟩, h7⟩, h8⟩, h9⟩ := h
 exact ⟨h1, h2, fun y hy e => (h3 y hy).resolve_left fun k => k e, h4, h5, h6, h7, h8, fun y hy e => List.contains_iff_mem.mp ((h9 y hy).resolve_left fun k => k e)⟩
theorem cc_env {sc : Scope} {x : Str} {G : List (Str × Value)} {R : List Str} (h : CcK sc x G R) (hG : ∀ p ∈ G, GlobV X p.1 p.2) (E : EnvOK X env fi) (cl : List (Str × Addr)) (C : Addr) :
  EnvOK X (compEnvC sc cl C env) ⟨G, [x], [], R⟩ :=
 ⟨h.k, E.globs, E.blt, fun p hp => ⟨lookup_relabel_other (fun e => by cases e) (h.g p hp).1, (h.g p hp).2, hG p hp⟩, fun y hy => by rw [List.mem_singleton.mp hy]; exact ⟨lookup_relabel_other (fun e => by cases e) h.lx, h.d⟩, List.nodup_cons.mpr ⟨fun e => (by cases e), List.nodup_nil⟩, h.n, fun y hy => (by cases hy),
  fun y hy => ⟨(lookup_relabel_free (h.r y hy).1.1).imp id id, (h.r y hy).1.2, (h.r y hy).2⟩⟩
theorem cc_clos {sc : Scope} {x : Str} {G : List (Str × Value)} {C' : List (Str × Option V)} (h : CcK sc x G (C'.map (·.1))) (hC : ∀ p ∈ C', p ∈ F.C) {P : Pin} {hp : Heap} (f : FrOK X fi P env F hp) :
  ∃ cl, closureFor sc env = pure cl /\ ∀ p ∈ C', cl.lookup p.1 = env.cells.lookup p.1 := by
 have hca : ∀ p ∈ C', env.cells.lookup p.1 = some ((env.cells.lookup p.1).getD 0) := fun p hp => (f.cel p (hC p hp)).elim fun c k => k.elim fun o k => k.elim fun u k => by rw [k.1]; rfl
 refine ⟨clos (fun y => (env.cells.lookup y).getD 0) sc.names [], closureFor_eq fun y hy hf => (List.mem_map.mp (h.f y hy hf)).elim fun p k => by rw [<- k.2]; exact hca p k.1, fun p hp => ?_⟩
 rw [hca p hp]
 exact lookup_fn (clos_ok _ _ (fun p hp => by cases hp)) (clos_has _ _ (mem_of_lookup (h.r _ (List.mem_map_of_mem (f := (·.1)) hp)).1.1))
theorem none_of_size {P : Pin} {s : Shared} (S : St X P H s) {a : Addr} (h : s.heap.get? a = none) : P a = none /\ H a = none := by
 constructor
 ·cases e : P a with
  | none => rfl
  | some o => have := S.pin _ _ e; rw [h] at this; cases this
 ·cases e : H a with
  | none => rfl
  | some c => exact (S.cell _ _ e).2.some.elim fun o q => by rw [h] at q; cases q.1
theorem FrOK.weak {fi : FI} {P : Pin} {env : Env} {x : Str} {o : Option V} {C : List (Str × Option V)} {h : Heap} (f : FrOK X fi P env ⟨[(x, o)], C⟩ h) : FrOK X fi P env ⟨[(x, none)], C⟩ h :=
 ⟨f.nL, f.nC, f.fresh, f.loc.elim fun o' k => k.elim fun m k => ⟨o', m, k.1, k.2.1, fun p hp V e => by rw [List.mem_singleton.mp hp] at e; cases e⟩, f.cel, f.inj⟩
theorem FrOK.repin {fi : FI} {P P' : Pin} {env : Env} {F : Frame} {h : Heap} (f : FrOK X fi P env F h) (h1 : P' env.locals = P env.locals) (h2 : ∀ p ∈ F.C, ∀ c, env.cells.lookup p.1 = some c -> P' c = P c) : FrOK X fi P' env F h :=
 ⟨f.nL, f.nC, f.fresh, f.loc.elim fun o k => k.elim fun m k => ⟨o, m, h1.trans k.1, k.2⟩, fun p hp => (f.cel p hp).elim fun c k => k.elim fun o k => k.elim fun u k => ⟨c, o, u, k.1, (h2 p hp c k.1).trans k.2.1, k.2.2⟩, f.inj⟩
theorem pinAt_ne {P : Pin} {a b : Addr} {o : Obj} (h : b ≠ a) : pinAt P a o b = P b := if_neg h
theorem unpin_ne {P : Pin} {a b : Addr} (h : b ≠ a) : Mine.unpin P a b = P b := if_neg h
theorem NsO.notTup {o : Obj} {m} (n : NsO o m) : notTup o := fun xs k e => n.elim fun es q => q.elim fun ep q => by rw [e] at q; cases q.1
structure CcX (X : Wd) (fi' : FI) (C' : List (Str × Option V)) (cenv : Env) (P : Pin) (C it acc : Addr) : Prop where
 E : EnvOK X cenv fi'
 lc : cenv.locals = C
 nc : fi'.C = []
 bI : X.B.get? it = none
 bA : X.B.get? acc = none
 pC : P C = none
 pI : P it = none
 pA : P acc = none
 nA : acc ≠ C
 nI : it ≠ C
 nB : it ≠ acc
 ap : ∀ p ∈ C', ∀ c, cenv.cells.lookup p.1 = some c -> c ≠ it /\ c ≠ acc
structure CcAt (X : Wd) (fi' : FI) (C' : List (Str × Option V)) (cenv : Env) (x : Str) (P : Pin) (h₀ : Heap) (it acc : Addr) (d : Cell) (H : Hp) (P' : Pin) (t : Shared) : Prop where
 st : St X P' H t
 fr : FrOK X fi' P' cenv ⟨[(x, none)], C'⟩ t.heap
 gr : Grow h₀ t.heap
 le : ∀ a o, P a = some o -> P' a = some o
 ni : P' it = none
 nh : H it = none
 ac : ∃ oa, P' acc = some oa
 cr : CR X.w t.heap d acc
structure CcM (X : Wd) (fi' : FI) (C' : List (Str × Option V)) (cenv : Env) (x : Str) (P : Pin) (h₀ : Heap) (it acc : Addr) (D : Heap -> Prop) (d : Cell) (v : V) (P5 : Pin) (h5 : Heap) : Prop where
 fr : FrOK X fi' P5 cenv ⟨[(x, some v)], C'⟩ h5
 gr : Grow h₀ h5
 le : ∀ a o, P a = some o -> P5 a = some o
 it : ∃ o3, P5 it = some o3 /\ ∀ h, Grow h5 h -> h.get? it = some o3 -> D h
 ac : ∃ oa, P5 acc = some oa /\ h5.get? acc = some oa
 cr : CR X.w h5 d acc
section
variable {fi' : FI} {C' : List (Str × Option V)} {cenv : Env} {x : Str} {P : Pin} {h₀ : Heap} {C it acc : Addr}
theorem CcM.now {D : Heap -> Prop} {d : Cell} {v : V} {P5 : Pin} {h5 : Heap} (m : CcM X fi' C' cenv x P h₀ it acc D d v P5 h5) {H7 : Hp} {s : Shared} (S : St X P5 H7 s) (g : Grow h5 s.heap) : H7 acc = none /\ CR X.w s.heap d acc /\ ∃ oa, P5 acc = some oa /\ s.heap.get? acc = some oa :=
 m.ac.elim fun oa e => ⟨S.notCell e.1, m.cr.mono g ((S.pin _ _ e.1).trans e.2.symm), oa, e.1, S.pin _ _ e.1⟩
theorem cc_back (x0 : CcX X fi' C' cenv P C it acc) {D : Heap -> Prop} {d d' : Cell} {v : V} {P5 : Pin} {h5 : Heap} (m : CcM X fi' C' cenv x P h₀ it acc D d v P5 h5) {H7 : Hp} {s : Shared} (hA : H7 acc = none) (S : St X (Mine.unpin P5 acc) H7 s) (g : Grow h5 s.heap) (c : CR X.w s.heap d' acc) :
  (∃ P'', CcAt X fi' C' cenv x P h₀ it acc d' H7 P'' s) /\ D s.heap := by
 refine cps fun G0 z0 => ?_
 obtain ⟨o9, ho9, _⟩ := c.some
 obtain ⟨o3, hi, hD⟩ := m.it
 refine z0 ?_
 clear z0
 have S10 := S.pinIn (a := acc) (o := o9) unpin_self hA ho9
 have eP : ∀ b, b ≠ acc -> pinAt (Mine.unpin P5 acc) acc o9 b = P5 b := fun b hb => (pinAt_ne hb).trans (unpin_ne hb)
 have it10 := (eP it x0.nB).trans hi
 have eC := x0.lc
 refine ⟨⟨_, S10.unpin x0.bI, (m.fr.grow g).weak.repin ?_ fun p hp c hc => (unpin_ne (x0.ap p hp c hc).1).trans (eP c (x0.ap p hp c hc).2), m.gr.trans g, fun a o e => ?_, unpin_self, S10.notCell it10, ⟨o9, (unpin_ne x0.nB.symm).trans pinAt_self⟩, c⟩, hD _ g (S10.pin _ _ it10)⟩
 ·rw [eC]; exact (unpin_ne x0.nI.symm).trans (eP C x0.nA.symm)
 ·exact (unpin_ne fun k => by rw [k, x0.pI] at e; cases e).trans ((eP a fun k => by rw [k, x0.pA] at e; cases e).trans (m.le a o e))
theorem cc_turn (x0 : CcX X fi' C' cenv P C it acc) {K : Hp -> Prop} {D : List V -> Heap -> Prop} (T : Itr X it K D) {A : Around} (r : Room n A) {d : Cell} {H' : Hp} {P' : Pin} {t : Shared} (cc : CcAt X fi' C' cenv x P h₀ it acc d H' P' t) (hK : K H') {v : V} {rem : List V} (dd : D (v :: rem) t.heap)
  {px : Pos} {N R : Shared -> Prop} {E E' : Value -> Shared -> Prop} (h : ∀ P5 s₅, CcM X fi' C' cenv x P h₀ it acc (D rem) d v P5 s₅.heap -> St X P5 H' s₅ -> R s₅) :
  wpAny (MM X) A (pyNext (.ref it)) (fun r s₁ => match r with | none => N s₁ | some u => wpAny (MM X) A (assign (.Name x px) cenv u) (fun O s₂ => R s₂) E' s₁) E t := by
 refine cps fun G z => ?_
 obtain ⟨o, ho, no⟩ := T.live _ _ dd
 obtain ⟨oa, ha⟩ := cc.ac
 refine z (T.item A P' H' t v rem _ _ r.hd cc.st hK dd fun y h' tk ry d' hx => ?_)
 refine cps fun G z => ?_
 obtain ⟨S3, g3⟩ := cc.st.extBut cc.ni cc.nh hx (fun o' e => by rw [ho] at e; cases e; exact no) (tk := tk)
 obtain ⟨o3, ho3, no3⟩ := T.live _ _ d'
 refine z (wpAny_mono (wa_name (F := ⟨[(x, none)], C'⟩) (Q := fun F' H'' => F' = ⟨[(x, some v)], C'⟩ /\ H'' = H') (wn_loc Put.here ⟨rfl, rfl⟩) x0.E A _ _ y r (S3.pinIn (o := o3) cc.ni cc.nh ho3) ((cc.fr.grow g3).pins (pinAt_le (o := o3) cc.ni)) ry) (fun O s₅ p0 => p0.rec fun F5 H5 P5 p5 S5 f5 g5 q => ?_) fun O O e => e.elim)
 obtain ⟨rfl, rfl⟩ := q
 have p5 : ∀ b, b ≠ C -> P5 b = pinAt P' it o3 b := fun b hb => p5 b (x0.lc ▸ hb) fun x hx => by rw [x0.nc] at hx; cases hx
 have ea : P5 acc = some oa := (p5 acc x0.nA).trans ((pinAt_ne x0.nB.symm).trans ha)
 have g := g3.trans g5
 exact h P5 s₅ ⟨f5, cc.gr.trans g, fun a o e => (p5 a fun k => by rw [k, x0.pC] at e; cases e).trans (pinAt_le cc.ni _ _ (cc.le a o e)), ⟨o3, (p5 it x0.nI).trans pinAt_self, fun h' g' e => T.frame _ _ _ d' (g5.trans g') (e.trans ho3.symm)⟩,
  ⟨oa, ea, S5.pin _ _ ea⟩, cc.cr.mono g ((S5.pin _ _ ea).trans (cc.st.pin _ _ ha).symm)⟩ S5
theorem cc_done (x0 : CcX X fi' C' cenv P C it acc) {K : Hp -> Prop} {D : List V -> Heap -> Prop} (T : Itr X it K D) {A : Around} (r : Room n A) {d : Cell} {H' : Hp} {P' : Pin} {t : Shared} (cc : CcAt X fi' C' cenv x P h₀ it acc d H' P' t) (hK : K H') (dd : D [] t.heap) {s0 : Shared} (S0 : St X P H s0)
  {N : Shared -> Prop} {M : Value -> Shared -> Prop} {E : Value -> Shared -> Prop} (h : ∀ t' oc mc, H' acc = none -> St X P (H'.set acc d) t' -> Grow h₀ t'.heap -> t'.heap.get? C = some oc -> NsO oc mc -> (H'.set acc d) C = none -> N t') :
  wpAny (MM X) A (pyNext (.ref it)) (fun r s₁ => match r with | none => N s₁ | some u => M u s₁) E t := by
 refine cps fun G z => ?_
 obtain ⟨o, ho, no⟩ := T.live _ _ dd
 obtain ⟨oa, ha⟩ := cc.ac
 obtain ⟨oc, mc, z1, z2, _⟩ := cc.fr.loc
 rw [x0.lc] at z1
 refine z (T.done A P' H' t _ _ r.hd cc.st hK dd fun h' tk hx => ?_)
 obtain ⟨S3, g3⟩ := cc.st.extBut cc.ni cc.nh hx (fun o' e => by rw [ho] at e; cases e; exact no) (tk := tk)
 have S4 : St X P H' { t with heap := h', toks := tk } := S3.drop S0.base cc.le
 refine h _ oc mc (S3.notCell ha) ⟨S4.base, S4.pin, fun b c e => ?_, S4.gens, S4.os⟩ (cc.gr.trans g3) (S3.pin _ _ z1) z2 ((Hp.set_ne x0.nA.symm).trans (S3.notCell z1))
 unfold Hp.set at e
 by_cases k : b = acc
 ·rw [if_pos k] at e; cases e; rw [k]; exact ⟨x0.pA, cc.cr.mono g3 ((S3.pin _ _ ha).trans (cc.st.pin _ _ ha).symm)⟩
 ·rw [if_neg k] at e; exact S4.cell b c e
theorem cc_gone {P : Pin} {s : Shared} (S : St X P H s) (p : P C = none) (c : H C = none) {oc : Obj} {mc : Str -> Option Value} (e : s.heap.get? C = some oc) (nn : NsO oc mc) {h'' : Heap} {tk : Nat} (b : Heap.SameBut C s.heap h'') : St X P H { s with heap := h'', toks := tk } /\ Grow s.heap h'' :=
 S.extBut p c b.extBut fun o' k => by rw [e] at k; cases k; exact nn.notTup
theorem cc_start {sc : Scope} {G : List (Str × Value)} (hk : CcK sc x G (C'.map (·.1))) (hG : ∀ p ∈ G, GlobV X p.1 p.2) (EV : EnvOK X env fi) (hC : ∀ p ∈ C', p ∈ F.C) {s₂ : Shared} {oa : Obj} {cl : List (Str × Addr)}
  (S : St X P H s₂) (f : FrOK X fi P env F s₂.heap) (hcl : ∀ p ∈ C', cl.lookup p.1 = env.cells.lookup p.1) (hof : oa.isFreed = false) {oi : Obj} (hit : s₂.heap.get? it = some oi) (pit : P it = none) (hH : H it = none) {A : Around} (g : Grow h₀ s₂.heap) {d : Cell} (hd : ∀ h : Heap, h.get? s₂.heap.objs.size = some oa -> CR X.w h d s₂.heap.objs.size)
  {Q : Env -> Shared -> Prop} (h : ∀ C s₄ P', CcX X ⟨G, [x], [], C'.map (·.1)⟩ C' (compEnvC sc cl C env) P C it s₂.heap.objs.size -> CcAt X ⟨G, [x], [], C'.map (·.1)⟩ C' (compEnvC sc cl C env) x P h₀ it s₂.heap.objs.size d H P' s₄ -> (∀ b o, s₂.heap.get? b = some o -> s₄.heap.get? b = some o) ->
   Q (newEnv sc C env.globals cl env.qual none .none (some env) builtinsNs) s₄) :
  wpAny (MM X) A (newFunctionEnv sc env.globals cl [] env.qual none .none (some env)) Q noE { s₂ with heap := s₂.heap.push oa } := by
 refine wpAny_newFunctionEnv hk.c (by intro y hy; cases hy) (fun h₁ hns₁ hsb₁ => ?_) hk.k
 refine cps fun G z => ?_
 dsimp only at hns₁ hsb₁
 generalize hH2 : s₂.heap.push oa = H2 at hns₁ hsb₁ z
 have hCs : H2.objs.size = s₂.heap.objs.size + 1 := by rw [<- hH2, Heap.size_push]
 have lt : ∀ {b o}, s₂.heap.get? b = some o -> b < s₂.heap.objs.size := fun e => Heap.lt_size e
 have nC : ∀ {b}, b < s₂.heap.objs.size -> b ≠ H2.objs.size := fun l => by rw [hCs]; exact Nat.ne_of_lt (Nat.lt_succ_of_lt l)
 have old : ∀ b o, s₂.heap.get? b = some o -> h₁.get? b = some o := fun b o e => hsb₁.extBut b o (nC (lt e)) (Heap.get?_push_of_some _ (hH2 ▸ Heap.get?_push_of_some _ e))
 have ne1 : s₂.heap.objs.size ≠ H2.objs.size := by rw [hCs]; exact Nat.ne_of_lt (Nat.lt_succ_self _)
 have eacc : h₁.get? s₂.heap.objs.size = some oa := hsb₁.extBut _ _ ne1 (Heap.get?_push_of_some _ (hH2 ▸ Heap.get?_push_size _ hof))
 have sg := S.grown old (tk := s₂.toks + ([] : List (Str × Value)).length)
 have nn : s₂.heap.get? H2.objs.size = none := by
  cases e : s₂.heap.get? H2.objs.size with
  | none => rfl
  | some o => exact absurd rfl (nC (lt e))
 have pC := none_of_size S nn
 have pA := S.none_size
 obtain ⟨oc, es, ep, n1, n2, n3, n4⟩ := hns₁
 have ni := lt hit
 have n5 := Nat.ne_of_lt ni
 have SA := sg.1.pinIn (o := oa) pA.2 pA.1 eacc
 have SC := SA.pinIn (a := H2.objs.size) (o := oc) ((pinAt_ne ne1.symm).trans pC.1) pC.2 n1
 have fa := f.apart pit
 have fb := f.apart pA.2
 have keep : ∀ {c o}, P c = some o -> pinAt (pinAt P s₂.heap.objs.size oa) H2.objs.size oc c = some o := fun {c o} e => (pinAt_ne (nC (lt (S.pin _ _ e)))).trans ((pinAt_ne (Nat.ne_of_lt (lt (S.pin _ _ e)))).trans e)
 refine z (h H2.objs.size _ _ ⟨cc_env hk hG EV cl _, rfl, rfl, S.fresh pit, S.fresh pA.2, pC.1, pit, pA.2, ne1, nC ni, n5, fun p hp c hc => ⟨fun k => fa.2 p (hC p hp) c ((hcl p hp).symm.trans hc) k.symm, fun k => fb.2 p (hC p hp) c ((hcl p hp).symm.trans hc) k.symm⟩⟩
  ⟨SC, ⟨rfl, (List.nil_append _).symm, S.fresh pC.1, ⟨oc, _, pinAt_self, ⟨es, ep, n2, n3, n4⟩, fun p hp V e => by rw [List.mem_singleton.mp hp] at e; cases e⟩, fun p hp => ?_, fun p hp q hq c e1 e2 => f.inj p (hC p hp) q (hC q hq) c ((hcl p hp).symm.trans e1) ((hcl q hq).symm.trans e2)⟩, g.trans sg.2, fun a o e => keep e, (pinAt_ne (nC ni)).trans ((pinAt_ne n5).trans pit), hH, ⟨oa, (pinAt_ne ne1).trans pinAt_self⟩, hd _ eacc⟩ old)
 exact (f.cel p (hC p hp)).elim fun c k => k.elim fun o k => k.elim fun u k => ⟨c, o, u, (hcl p hp).trans k.1, keep k.2.1, k.2.2.1, k.2.2.2.1, fun V q => (k.2.2.2.2 V q).elim fun v r => ⟨v, r.1, r.2.grow sg.2⟩⟩
end
inductive LcR (X : Wd) (n : Nat) (fi' : FI) (x : Str) (C' : List (Str × Option V)) (elt : Expr) (ifs : List Expr) (Q : V -> Hp -> Prop) (v : V) (H₁ : Hp) : Prop
 | i (vs : List V) (K : Hp -> Prop) (I : List V -> List V -> Hp -> Prop) (w : WIt X n v H₁ vs K) (h : I vs [] H₁) (k : ∀ r d H', I r d H' -> K H') (d : ∀ d H' a, I [] d H' -> H' a = none -> Q (.ref a) (H'.set a (.list d)))
  (t : ∀ v r d H' cenv, I (v :: r) d H' -> WF X n fi' cenv ⟨[(x, some v)], C'⟩ ifs H' (fun b H2 => (b = true -> d.length <= 10000000 /\ WE X n fi' cenv ⟨[(x, some v)], C'⟩ elt H2 (fun w H3 => I r (d ++ [w]) H3)) /\ (b = false -> I r d H2)))
theorem we_lcomp {elt iter : Expr} {x : Str} {px : Pos} {ifs : List Expr} {sc : Scope} {pos : Pos} {Q : V -> Hp -> Prop} {G : List (Str × Value)} {C' : List (Str × Option V)}
  (hk : ccChk sc x G (C'.map (·.1)) = true) (hG : ∀ p ∈ G, GlobV X p.1 p.2) (hC : ∀ p ∈ C', p ∈ F.C) (h : WE X n fi env F iter H (LcR X n ⟨G, [x], [], C'.map (·.1)⟩ x C' elt ifs Q))
  (hs : ∀ x, foldedSetIterable iter env x = pure x) : WE X n fi env F (.ListComp elt [⟨.Name x px, iter, ifs, 0⟩] sc pos) H Q := fun E A P s r S f => by
 have ck := ccK hk
 refine cps fun G z => ?_
 obtain ⟨cl, hclos, hcl⟩ := cc_clos ck hC f
 refine z ?_
 clear z
 simp only [eval_ListComp]
 refine wpAny_comprehension_free (use := none) rfl hs hclos ck.k ck.l (wpAny_mono (h E A P s r S f) (fun u s₁ p0 => p0.rec fun v H₁ ru S₁ g₁ q0 => q0.rec fun vs K I hW hI hK hD hT =>
  wpAny_mono (hW A P s₁ u r S₁ ru) (fun it s₂ q0 => q0.rec fun a D eit T d0 S₂ g₂ pa ha => ?_) fun O O x => x.elim) fun O O x => x)
 subst eit
 refine cps fun G z => ?_
 obtain ⟨oi, hoi, _⟩ := T.live _ _ d0
 refine z (wpAny_newObj_type (cc_start (oa := lstO [] 0) (d := .list []) ck hG E hC S₂ (f.grow (g₁.trans g₂)) hcl rfl hoi pa ha (g₁.trans g₂) (fun h e => CR.list e rfl) fun C s₄ P' x0 cc old => ?_))
 have d1 : D vs s₄.heap := T.frame _ _ _ d0 (fun b xs m e => old _ _ e) ((old _ _ hoi).trans hoi.symm)
 clear z hoi old
 have loop : codeAny (MM X) A (.compLoop (.ListComp elt [⟨.Name x px, iter, ifs, 0⟩] sc pos) 0 (.ref a) (.ref s₂.heap.objs.size) (compEnvC sc cl C env)) (compPost (MM X) A noE none (PV X P s.heap Q) (.ref s₂.heap.objs.size) C) s₄ := by
  refine codeAny_compLoop_tests (fun k t => ∃ rem d H' P', rem.length = k /\ CcAt X _ C' (compEnvC sc cl C env) x P s.heap a s₂.heap.objs.size (.list d) H' P' t /\ D rem t.heap /\ I rem d H') (fun k t hi => ?_) vs.length ⟨vs, [], H₁, P', rfl, cc, d1, hI⟩ (fun v => rfl)
  refine cps fun G z => ?_
  obtain ⟨rem, d, H', P', rfl, cc, dd, hi⟩ := hi
  induction rem with
  | nil => exact z (cc_done x0 T r cc (hK _ _ _ hi) dd S₂ fun t' oc mc nA S5 g5 e nn nC => ⟨mc, nn.ns e, fun h'' hs => let q := cc_gone S5 x0.pC nC e nn hs (tk := t'.toks); .mk q.1 vr_ref (g5.trans q.2) (hD _ _ _ hi nA)⟩)
  | cons v rem =>
   refine z (cc_turn x0 T r cc (hK _ _ _ hi) dd fun P5 s₅ m S5 => ?_)
   refine wpAny_mono (hT v rem d H' _ hi x0.E A P5 s₅ r S5 m.fr) (fun b s₆ p0 => p0.rec fun H6 S6 g6 q6 => ?_) fun O O e => e.elim
   induction b with
   | false =>
    have w := m.now S6 g6
    have b := cc_back x0 m w.1 (S6.unpin x0.bA) g6 w.2.1
    exact b.1.elim fun P'' c => ⟨rem.length, Nat.lt_succ_self _, rem, d, H6, P'', rfl, c, b.2, q6.2 rfl⟩
   | true =>
    refine wpAny_mono ((q6.1 rfl).2 x0.E A P5 s₆ r S6 (m.fr.grow g6)) (fun y7 s₇ p0 => p0.rec fun w H7 rw7 S7 g7 q7 => ?_) fun O O e => e.elim
    have k := m.now S7 (g6.trans g7)
    have SU := S7.unpin x0.bA
    have SA : St X (Mine.unpin P5 s₂.heap.objs.size) (H7.set s₂.heap.objs.size (.list d)) s₇ := ⟨SU.base, SU.pin, fun b c e => by
     unfold Hp.set at e
     by_cases q : b = s₂.heap.objs.size
     ·rw [if_pos q] at e; cases e; rw [q]; exact ⟨unpin_self, k.2.1⟩
     ·rw [if_neg q] at e; exact SU.cell b c e, SU.gens, SU.os⟩
    refine wpAny_mono (wc_append (n := n) (X := X) (v := w) (Q := fun V H' => H' = (H7.set s₂.heap.objs.size (.list d)).set s₂.heap.objs.size (.list (d ++ [w]))) (Hp.set_same _ _ _) (q6.1 rfl).1 rfl A _ s₇ _ r SA ⟨_, _, rfl, vr_ref, VRs.two rw7⟩) (fun O s₈ p0 => p0.rec fun O H8 O S8 g9 e8 => ?_) fun O O e => e.elim
    subst e8
    have b := cc_back x0 m k.1 (S8.le fun b c e => by
     have : b ≠ s₂.heap.objs.size := fun q => by rw [q, k.1] at e; cases e
     rw [Hp.set_ne this, Hp.set_ne this]; exact e) ((g6.trans g7).trans g9) (S8.cell _ _ (Hp.set_same _ _ _)).2
    exact b.1.elim fun P'' c => ⟨rem.length, Nat.lt_succ_self _, rem, d ++ [w], H7, P'', rfl, c, b.2, q7⟩
 exact codeAny_compStart_list loop (T.self A _ vs _ _ d1 loop)
end
end
section
noncomputable def lkA (l : List (Str × V)) (k : Str) : Option V := match l with
 | [] => none
 | p :: r => if p.1 = k then some p.2 else lkA r k
noncomputable def putA (l : List (Str × V)) (k : Str) (v : V) : List (Str × V) := match l with
 | [] => [(k, v)]
 | p :: r => if p.1 = k then (p.1, v) :: r else p :: putA r k v
theorem lkA_c {p : Str × V} {r k} : lkA (p :: r) k = if p.1 = k then some p.2 else lkA r k := rfl
theorem putA_c {p : Str × V} {r k v} : putA (p :: r) k v = if p.1 = k then (p.1, v) :: r else p :: putA r k v := rfl
theorem isStr_str {x y : Str} {t : Tok} : (Value.str x t).isStr y = decide (x = y) := by
 show (x == y) = decide (x = y)
 rw [Bool.eq_iff_iff]; simp
theorem ARs.refKey {h : Heap} {vs : List (Str × V)} : ∀ {es}, ARs h vs es -> es.any (·.refKey) = false := by
 induction vs with
 | nil => exact fun q => (show _ = _ from q) ▸ rfl
 | cons p vs ih => exact fun {es} q => q.elim fun e q => q.elim fun r q => q.1 ▸ q.2.1.elim fun t k => by rw [List.any_cons, ih q.2.2.2, DictEntry.refKey, k]; rfl
theorem ks_eq {e : DictEntry} {a k : Str} (h : ∃ t, e.key = .str a t) : e.key.isStr k = decide (a = k) := h.elim fun t h => h ▸ isStr_str
theorem ARs.find {h : Heap} {k : Str} {vs : List (Str × V)} : ∀ {es}, ARs h vs es -> ∀ {v}, lkA vs k = some v -> ∃ e, es.find? (·.key.isStr k) = some e /\ VR h v e.val := by
 induction vs with
 | nil => exact fun {es} O {v} e => none_no e
 | cons p vs ih => exact fun {es} q {v} => q.elim fun e q => q.elim fun r q => q.1 ▸ fun hv => (Decidable.em (p.1 = k)).elim (fun z => ⟨e, List.find?_cons_of_pos (p := fun e : DictEntry => e.key.isStr k) ((ks_eq q.2.1).trans (decide_eq_true z)), Option.some.inj ((if_pos z).symm.trans hv) ▸ q.2.2.1⟩) fun z => (ih q.2.2.2 ((if_neg z).symm.trans hv)).elim fun y w => ⟨y, (List.find?_cons_of_neg (p := fun e : DictEntry => e.key.isStr k) fun h => z (of_decide_eq_true ((ks_eq q.2.1).symm.trans h))).trans w.1, w.2⟩
theorem ARs.miss {h : Heap} {k : Str} {vs : List (Str × V)} : ∀ {es}, ARs h vs es -> lkA vs k = none -> es.find? (·.key.isStr k) = none := by
 induction vs with
 | nil => exact fun q O => (show _ = _ from q) ▸ rfl
 | cons p vs ih => exact fun {es} q => q.elim fun e q => q.elim fun r q => q.1 ▸ fun hv => (Decidable.em (p.1 = k)).elim (fun z => none_no (Eq.symm ((if_pos z).symm.trans hv))) fun z => (List.find?_cons_of_neg (p := fun e : DictEntry => e.key.isStr k) fun h => z (of_decide_eq_true ((ks_eq q.2.1).symm.trans h))).trans (ih q.2.2.2 ((if_neg z).symm.trans hv))
theorem ARs.getL {h : Heap} {k : Str} {vs es} (r : ARs h vs es) {v : V} (e : lkA vs k = some v) : ∃ x, PySem.W.getL k es = some (some x) /\ VR h v x := by
 obtain ⟨en, a, b⟩ := r.find e
 exact ⟨en.val, by unfold PySem.W.getL; rw [a], b⟩
theorem ARs.getL0 {h : Heap} {k : Str} {vs es} (r : ARs h vs es) (e : lkA vs k = none) : PySem.W.getL k es = some none := by
 unfold PySem.W.getL; rw [r.miss e, r.refKey]; rfl
theorem ARs.put {h : Heap} {k : Str} {v : V} {x : Value} {hsh : Int} {t : Tok} (rv : VR h v x) {vs} : ∀ {es}, ARs h vs es -> ARs h (putA vs k v) (putL k hsh (.str k t) x es) := by
 induction vs with
 | nil => exact fun q => (show _ = _ from q) ▸ ⟨_, [], rfl, ⟨t, rfl⟩, rv, rfl⟩
 | cons p r ih =>
  refine fun q => q.elim fun e q => q.elim fun r' q => q.1 ▸ ?_
  rw [putA_c, putL, ks_eq q.2.1]
  exact (Decidable.em (p.1 = k)).elim (fun z => if_pos z ▸ if_pos (decide_eq_true z) ▸ ⟨_, r', rfl, q.2.1, rv, q.2.2.2⟩) fun z => if_neg z ▸ if_neg (fun e => z (of_decide_eq_true e)) ▸ ⟨e, _, rfl, q.2.1, q.2.2.1, ih q.2.2.2⟩
theorem ARs.len {h : Heap} {vs : List (Str × V)} : ∀ {es}, ARs h vs es -> es.length = vs.length := by
 induction vs with
 | nil => exact fun q => (show _ = _ from q) ▸ rfl
 | cons p vs ih => exact fun q => q.elim fun x q => q.elim fun r q => q.1 ▸ congrArg (· + 1) (ih q.2.2.2)
theorem putA_len (l : List (Str × V)) (k : Str) (v : V) : (putA l k v).length <= l.length + 1 := by
 induction l with
 | nil => exact Nat.le_refl _
 | cons p r ih => rw [putA_c]; exact (Decidable.em _).elim (fun z => if_pos z ▸ Nat.le_succ _) fun z => if_neg z ▸ Nat.succ_le_succ ih
theorem VR.handed {h : Heap} {V v} : VR h V v -> handedIn v = true :=
 V.casesOn (motive_1 := fun V => VR h V v -> handedIn v = true) (fun e => (show _ = _ from e) ▸ rfl) (fun O e => (show _ = _ from e) ▸ rfl) (fun O e => e.elim fun O e => e ▸ rfl) (fun O e => e.elim fun O e => e ▸ rfl) (fun O e => e.elim fun O e => e ▸ rfl)
  (fun O e => e.elim fun O e => e.elim fun O e => e.elim fun O e => e.1 ▸ rfl) (fun O e => (show _ = _ from e) ▸ rfl)
noncomputable def attrOK (K : Frag) (C : Addr) (name : Str) : Bool := plainGet K C name && hasDictIn K C && (match findIn K (.ref C) name with | some attr => noGet K attr | none => false)
noncomputable def setOK (K : Frag) (C : Addr) (name : Str) : Bool := (findIn K (.ref C) "__setattr__" == some (some (.builtin "object.__setattr__"))) && plainOver K C && (takerIn K C name == some none) && hasDictIn K C
noncomputable def methOK (K : Frag) (C : Addr) (name : Str) (f : Addr) : Bool := plainGet K C name && (findIn K (.ref C) name == some (some (.ref f))) && isFn K (.ref f) && keepIn K (.ref f)
section
variable {X : Wd} {n : Nat} {fi : FI} {env : Env} {F : Frame} {H : Hp}
noncomputable def WSA (X : Wd) (n : Nat) (name : Str) (o v : V) (H : Hp) (Q : Hp -> Prop) : Prop :=
 ∀ A P s vo vv, Room n A -> St X P H s -> VR s.heap o vo -> VR s.heap v vv -> wpAny (MM X) A (setAttr vo name vv) (fun O s' => PU X P s.heap Q s') noE s
theorem St.instAt {P : Pin} {s : Shared} (S : St X P H s) {a C d : Addr} {kvs : List (Str × V)} (e : H a = some (.inst C d)) (e2 : H d = some (.attrs kvs)) :
  ∃ es m, InstAt s.heap a (insO C d) C (some (dictOf es m)) /\ s.heap.get? d = some (dictOf es m) /\ ARs s.heap kvs es := by
 have h1 := (S.cell _ _ e).2
 obtain ⟨es, m, h2, r⟩ := (S.cell _ _ e2).2
 exact ⟨es, m, ⟨h1, rfl, rfl, h2⟩, h2, r⟩
theorem we_attr {o : Expr} {name : Str} {pos : Pos} {Q : V -> Hp -> Prop} (h : WE X n fi env F o H (fun ov H₁ => W1 X n (fun v => getAttr v name true) ov H₁ Q))
  (hb : ∀ env m, attributeBase o name env m = m) : WE X n fi env F (.Attribute o name pos) H Q := fun E A P s r S f => by
 rw [arm_eval_Attribute, hb]
 refine wpAny_bind (wpAny_mono (h E A P s r S f) (fun u s₁ p0 => p0.casesOn fun v H₁ ru S₁ g₁ q => wpAny_bind (wpAny_standAt (wpAny_bind (wpAny_holding ?_)))) fun O O x => x)
 refine wpAny_mono (q.use r S₁ ru g₁) (fun y s₂ x => ?_) fun O O x => x
 exact wpAny_bind (wpAny_letTemporaryGo (wpAny_pure x))
theorem ga_inst {name : Str} {a C d : Addr} {kvs : List (Str × V)} {v : V} {Q : V -> Hp -> Prop} (e : H a = some (.inst C d)) (e2 : H d = some (.attrs kvs)) (hv : lkA kvs name = some v) (hc : attrOK X.K C name = true) (h : Q v H) :
  W1 X n (fun v => getAttr v name true) (.ref a) H Q := fun A P s u r S ru => by
 rw [show u = _ from ru]
 refine cps fun G0 z0 => ?_
 obtain ⟨es, m, I, hd, rs⟩ := S.instAt e e2
 obtain ⟨x, hx, rx⟩ := rs.getL hv
 refine z0 ?_
 clear z0
 unfold attrOK at hc
 simp only [Bool.and_eq_true] at hc
 obtain ⟨⟨h1, h2⟩, h3⟩ := hc
 cases ha : findIn X.K (.ref C) name with
 | some attr =>
  rw [ha] at h3
  exact get_value S.K I (plainGet_of h1).1 (findObj_own h2 ha h3 (by simp only [lookIn_dict]; exact hx)) rx.handed (.mk (S.toks _) rx (Grow.refl _) h)
 | none => rw [ha] at h3; exact ff_no h3
theorem wa_attr {o : Expr} {name : Str} {pos : Pos} {v : V} {Q : Frame -> Hp -> Prop} (h : WE X n fi env F o H (fun ov H₁ => WSA X n name ov v H₁ (fun H₃ => Q F H₃))) : WA X n fi env F (.Attribute o name pos) v H Q := fun E A P s u r S f ru => by
 simp only [arm_assign_Attribute]
 refine wpAny_bind (wpAny_holding (wpAny_mono (h E A P s r S f) (fun va s₁ p0 => p0.casesOn fun a H₁ ra S₁ g₁ q => ?_) fun O O x => x))
 refine wpAny_bind (wpAny_standAt (wpAny_bind (wpAny_holding (wpAny_mono (q A P s₁ va u r S₁ ra (ru.grow g₁)) (fun O s₃ p0 => p0.casesOn fun H₃ S₃ g₃ q₃ => ?_) fun O O x => x))))
 exact wpAny_release ⟨F, H₃, P, .refl _ _ _, S₃, f.grow (g₁.trans g₃), g₁.trans g₃, q₃⟩
theorem sa_inst {name : Str} {a C d : Addr} {kvs : List (Str × V)} {v : V} {Q : Hp -> Prop} (e : H a = some (.inst C d)) (e2 : H d = some (.attrs kvs)) (hc : setOK X.K C name = true) (hl : kvs.length <= 500) (h : Q (H.set d (.attrs (putA kvs name v)))) :
  WSA X n name (.ref a) v H Q := fun A P s vo vv r S ro rv => by
 rw [show vo = _ from ro]
 refine cps fun G0 z0 => ?_
 obtain ⟨es, m, I, hd, rs⟩ := S.instAt e e2
 refine z0 ?_
 clear z0
 unfold setOK at hc
 simp only [Bool.and_eq_true, beq_iff_eq] at hc
 obtain ⟨⟨⟨c1, c2⟩, c3⟩, c4⟩ := hc
 refine set_plain S.K I c1 (osa_open S.K I c2 c3 fun b => ?_)
 obtain ⟨cd, hcd, hd'⟩ := any_some c4
 have hx := I.at_
 refine wpAny_bind (wpAny_pure (wpAny_bind (wpAny_bind (wpAny_loadPart hx (wpAny_bind ((looks_clsIn (h := ({ s with toks := s.toks + 1 } : Shared).heap) S.K hcd).here ?_))))))
 rw [hd']
 refine wpAny_pure (a := some d) (wpAny_bind (wpAny_pure (wpAny_bind ?_)))
 unfold nsSet
 refine wpAny_bind (wpAny_bind (wpAny_askSetting (wpAny_pure (wpAny_bind (wpAny_mkText (wpAny_bind (wpAny_loadPart hd ?_)))))))
 have c : (!es.toArray.any (·.key.isStr name) && es.toArray.any (·.refKey)) = false := by
  rw [show es.toArray.any (·.refKey) = es.any (·.refKey) by simp, rs.refKey, Bool.and_false]
 dsimp only
 rw [aRefKeyMayBeTheName_at, c]
 have D' : (s.heap.update d (Obj.putName name (PyData.keyHash X.w.params name) (.str name (s.toks + 1)) vv)).get? d = some (dictOf (putL name (PyData.keyHash X.w.params name) (.str name (s.toks + 1)) vv es) (putN name es m)) := by
  rw [Heap.get?_update_self _ hd (by rw [putName_dict]; rfl), putName_dict]
 refine wpAny_updatePart hd ?_
 have hz := rs.put (hsh := PyData.keyHash X.w.params name) (t := s.toks + 1) (k := name) rv
 have g := S.grow_at e2 (Heap.SameBut.update s.heap d (Obj.putName name (PyData.keyHash X.w.params name) (.str name (s.toks + 1)) vv))
 refine wpAny_bind (wpAny_lookBehind D' (pastItsLine_dict (by simp only [List.size_toArray, sizeLine_eq, hz.len]; have := putA_len kvs name v; lia)) ?_)
 refine wpAny_pure ⟨_, S.upd e2 _ (CR.attrs D' (hz.grow g)), g, h⟩
theorem we_mcall {o : Expr} {name : Str} {apos pos : Pos} {args : List Expr} {Q : V -> Hp -> Prop}
  (h : WE X n fi env F o H (fun ov H₁ => ∃ a C d kvs f, ov = .ref a /\ H₁ a = some (.inst C d) /\ H₁ d = some (.attrs kvs) /\ lkA kvs name = none /\ methOK X.K C name f = true /\ WEs X n fi env F args H₁ (fun vs H₂ => WC X n (.ref f) (.ref a :: vs) H₂ Q)))
  (he : ∀ env, eval (.Call (.Attribute o name apos) args [] pos) env = (do
   let ov <- eval o env
   standAt apos.atName
   let (f, first) <- holding [ov] (getMethod ov name (do return (<- importBound o env).getD true))
   callWith pos f first (backTo pos (starEach args env)) (backToKw pos (keywordEach [] env))))
  (hp : ∀ env pos, (backTo pos (starEach args env)).any (·.1) = false) : WE X n fi env F (.Call (.Attribute o name apos) args [] pos) H Q := fun E A P s r S f => by
 simp only [he]
 refine wpAny_bind (wpAny_mono (h E A P s r S f) (fun va s₁ p0 => p0.casesOn fun ov H₁ ra S₁ g₁ q0 => ?_) fun O O x => x)
 refine cps fun G0 z0 => ?_
 obtain ⟨a, C, d, kvs, g, el, e, e2, hn, hc, q⟩ := q0
 subst el
 refine z0 ?_
 clear z0
 rw [show va = _ from ra]
 refine cps fun G0 z0 => ?_
 obtain ⟨es, m, I, hd, rs⟩ := S₁.instAt e e2
 refine z0 ?_
 clear z0
 unfold methOK at hc
 simp only [Bool.and_eq_true, beq_iff_eq] at hc
 obtain ⟨⟨⟨c1, c2⟩, c3⟩, c4⟩ := hc
 refine wpAny_bind (wpAny_standAt (wpAny_bind (wpAny_holding (method_fn S₁.K I (plainGet_of c1).1 (plainGet_of c1).2 c2 (beq_iff_eq.mp c3) (by show (lookIn name (dictOf es m)).map _ = _; rw [lookIn_dict, rs.getL0 hn]; rfl) ?_))))
 show wpAny _ _ (callWith pos (.ref g) [.ref a] _ []) _ _ _
 have hh := q E A P s₁ pos r S₁ (f.grow g₁)
 have hq := hp env pos
 refine callWith_of (P := fun h => X.K.In h) (by rw [hq]; rfl) (keeps_K c4) ?_
 revert hh hq
 generalize backTo pos (starEach args env) = l
 intro hh hq
 have k : wpAny (MM X) A (spliced l) (fun vs s' => X.K.In s'.heap /\ wpAny (MM X) A (call (.ref g) ([.ref a] ++ vs)) (PV X P s.heap Q) noE s') noE s₁ :=
  wpAny_mono hh (fun vs s₂ p0 => p0.casesOn fun Vs H₂ rs S₂ g₂ q₂ => ⟨S₂.K, q₂.use r S₂ ((VRs.two vr_ref).append rs) (g₁.trans g₂)⟩) fun O O x => x
 cases l with
 | nil => exact evalArgs_none' k
 | cons p l' =>
  obtain ⟨b, x⟩ := p
  cases b with
  | false => exact evalArgs_plain k
  | true => exact ff_no (Eq.symm hq)
theorem wc_make {C fI : Addr} {vs : List V} {Q : V -> Hp -> Prop} (hm : makesIn X.K C = true) (hi : findIn X.K (.ref C) "__init__" = some (some (.ref fI))) (hf : typeIn X.K (.ref fI) = some (.type "function"))
  (h : ∀ x d, H x = none -> H d = none -> x ≠ d -> WD X n (.ref fI) (.ref x :: vs) ((H.set d (.attrs [])).set x (.inst C d)) (fun v H' => v = .none /\ Q (.ref x) H')) : WC X (n + 1) (.ref C) vs H Q := fun A P s vals r S rv => by
 refine wpAny_call ?_
 obtain ⟨hh, g, d, t, os⟩ := s
 have z := S.none_size
 have S1 := S.alloc (o := emptyDict) (c := .attrs []) (CR.attrs (xs := []) (n := 0) (Heap.get?_push_size _ rfl) rfl)
 have z1 := S1.none_size
 have S2 := S1.alloc (o := instObj C hh.objs.size) (c := .inst C hh.objs.size) (CR.inst (Heap.get?_push_size _ rfl))
 have ex : (hh.push emptyDict).objs.size = hh.objs.size + 1 := Heap.size_push _ _
 have gg : Grow hh ((hh.push emptyDict).push (instObj C hh.objs.size)) := (Grow.push _ _).trans (Grow.push _ _)
 have hx : H (hh.objs.size + 1) = none := by
  have := z1.1
  rw [<- ex]
  by_cases k : (hh.push emptyDict).objs.size = hh.objs.size
  ·rw [ex] at k; exact absurd k (Nat.succ_ne_self _)
  ·exact (Hp.set_ne k).symm.trans this
 refine make_core (makes_of S.K hm) (looks_findIn S.K hi) (fun self => bind_fn S.K self hf) (.inl rfl) ?_
 have r' : Room n (A.under (.builtin "type.__call__" ⟨.ref C :: vals, []⟩)) := ⟨by have := r.depth; show A.depth + (0 + 1 + 0 + 0) + n <= 900; lia, by have := r.units; show A.units + _ + 10 * n <= 9000; have e : (Code.builtin "type.__call__" ⟨.ref C :: vals, []⟩).frames = 0 := rfl; simp [Code.cUnits, e]; lia, r.hd⟩
 have S2' : St X P ((H.set hh.objs.size (.attrs [])).set (hh.objs.size + 1) (.inst C hh.objs.size)) ⟨(hh.push emptyDict).push (instObj C hh.objs.size), g, d, t, os⟩ := ex ▸ S2
 refine codeAny_mono (h (hh.objs.size + 1) hh.objs.size hx z.1 (Nat.succ_ne_self _) _ P _ (.ref (hh.objs.size + 1) :: vals) r' S2' ⟨_, _, rfl, vr_ref, rv.grow gg⟩) (fun rs s' q => ?_)
 rcases rs with e | (v | _ | _ | _) <;> first | exact q.elim | skip
 refine cps fun G0 z0 => ?_
 obtain ⟨V, H', rv', S', g', e, q⟩ := q
 subst e
 refine z0 ?_
 clear z0
 exact ⟨rv', .mk S' vr_ref (gg.trans g') q⟩
end
end
section
mutual
noncomputable def V.flat : V -> Bool
 | .ref _ => false
 | .tup vs => V.flats vs
 | _ => true
noncomputable def V.flats : List V -> Bool
 | [] => true
 | v :: r => V.flat v && V.flats r
end
mutual
noncomputable def V.dep : V -> Nat
 | .tup vs => V.deps vs + 1
 | _ => 0
noncomputable def V.deps : List V -> Nat
 | [] => 0
 | v :: r => max (V.dep v) (V.deps r)
end
theorem VRs.get' {h : Heap} {vs : List V} : ∀ {xs : List Value}, VRs h vs xs -> ∀ {i : Nat} {x}, xs[i]? = some x -> ∃ v, vs[i]? = some v /\ VR h v x := by
 induction vs with
 | nil => exact fun {xs} q {i x} => (show _ = _ from q) ▸ fun e => none_no (List.getElem?_nil.symm.trans e)
 | cons w vs ih => exact fun {xs} q {i x} => q.elim fun y q => q.elim fun r q => q.1 ▸ i.rec (fun e => Option.some.inj e ▸ ⟨w, rfl, q.2.1⟩) fun i O e => ih q.2.2 (i := i) e
theorem flats_at {vs : List V} : ∀ {i : Nat} {v}, V.flats vs = true -> vs[i]? = some v -> v.flat = true := by
 induction vs with
 | nil => exact fun {i v} O e => none_no (List.getElem?_nil.symm.trans e)
 | cons w vs ih => exact fun {i v} f => i.rec (fun e => Option.some.inj e ▸ (Bool.and_eq_true_iff.mp f).1) fun i O e => ih (Bool.and_eq_true_iff.mp f).2 (i := i) e
theorem deps_at {vs : List V} : ∀ {i : Nat} {v}, vs[i]? = some v -> v.dep <= V.deps vs := by
 induction vs with
 | nil => exact fun {i v} e => none_no (List.getElem?_nil.symm.trans e)
 | cons w vs ih => exact fun {i v} => i.rec (fun e => Option.some.inj e ▸ Nat.le_max_left _ _) fun i O e => Nat.le_trans (ih (i := i) e) (Nat.le_max_right _ _)
theorem all_true (n : Nat) : ((List.range n).all fun O => true) = true := by simp
theorem eqT_items {s : Shared} {vs : List V} {xs ys : List Value} (r1 : VRs s.heap vs xs) (r2 : VRs s.heap vs ys) {A : Around} (h : ∀ (i : Nat) v u w, vs[i]? = some v -> VR s.heap v u -> VR s.heap v w -> SeqAt.EqAt A s u w true) :
  ∀ j (h1 : j < xs.toArray.size) (h2 : j < ys.toArray.size), SeqAt.EqAt A s xs.toArray[j] ys.toArray[j] true := fun j h1 h2 => by
 simp only [List.getElem_toArray]
 have h1' : j < xs.length := by simpa using h1
 have h2' : j < ys.length := by simpa using h2
 refine cps fun G0 z0 => ?_
 obtain ⟨v, e, ru⟩ := r1.get' (i := j) (x := xs[j]) (by simp [h1'])
 obtain ⟨y, e2, rw'⟩ := r2.get e
 have : y = ys[j] := by rw [List.getElem?_eq_getElem h2'] at e2; exact (Option.some.inj e2).symm
 subst this
 refine z0 ?_
 clear z0
 exact h j v _ _ e ru rw'
theorem eqT_flat {s : Shared} : ∀ (k : Nat) (v : V), v.flat = true -> v.dep <= k -> ∀ {A : Around} {u w : Value}, A.units + k < cLine -> VR s.heap v u -> VR s.heap v w -> SeqAt.EqAt A s u w true := by
 intro k
 induction k with
 | zero =>
  intro v f d A u w hu ru rw'
  cases v with
  | none => rw [show u = _ from ru, show w = _ from rw']; exact SeqAt.EqAt.same _
  | bool b => rw [show u = _ from ru, show w = _ from rw']; exact SeqAt.EqAt.same _
  | int i => obtain ⟨t, rfl⟩ := ru; obtain ⟨t', rfl⟩ := rw'; have := SeqAt.EqAt.int_int (A := A) (s := s) i t i t'; rwa [beq_self_eq_true] at this
  | str i => obtain ⟨t, rfl⟩ := ru; obtain ⟨t', rfl⟩ := rw'; have := SeqAt.EqAt.str_str (A := A) (s := s) i t i t'; rwa [beq_self_eq_true] at this
  | bytes b => obtain ⟨t, rfl⟩ := ru; obtain ⟨t', rfl⟩ := rw'; exact fun prog w E Q h => eqBool_bytes (by simpa using h)
  | tup vs => exact absurd d (Nat.not_succ_le_zero _)
  | ref a => cases f
 | succ k ih =>
  intro v f d A u w hu ru rw'
  cases v with
  | none => exact ih .none f (Nat.zero_le _) (by lia) ru rw'
  | bool b => exact ih (.bool b) f (Nat.zero_le _) (by lia) ru rw'
  | int i => exact ih (.int i) f (Nat.zero_le _) (by lia) ru rw'
  | str i => exact ih (.str i) f (Nat.zero_le _) (by lia) ru rw'
  | bytes i => exact ih (.bytes i) f (Nat.zero_le _) (by lia) ru rw'
  | ref a => cases f
  | tup vs =>
   obtain ⟨a, xs, m, rfl, ho, rs⟩ := ru
   obtain ⟨b, ys, m', rfl, ho', rs'⟩ := rw'
   by_cases hab : a = b
   ·subst hab; exact SeqAt.EqAt.same _
   ·have d : V.deps vs + 1 <= k + 1 := d
    have f : V.flats vs = true := f
    have := SeqAt.RcAt.tuples (A := A) (e := fun O => true) ⟨_, ho, rfl, m, rfl⟩ ⟨_, ho', rfl, m', rfl⟩ (by lia) (eqT_items rs rs' (A := A.in1) fun i v u w e r1 r2 => ih v (flats_at f e) (Nat.le_trans (deps_at e) (by lia)) (by show A.units + 1 + k < cLine; lia) r1 r2)
    rw [all_true, Bool.true_and] at this
    rw [show (xs.toArray.size == ys.toArray.size) = true by simp [rs.length, rs'.length]] at this
    exact SeqAt.EqAt.of_refs hab this
section
variable {X : Wd} {n : Nat} {fi : FI} {env : Env} {F : Frame} {H : Hp} {Q : V -> Hp -> Prop}
theorem Room.cl {A : Around} {k : Nat} (r : Room n A) (h : k <= 800) : A.units + k < cLine := by have := r.units; show _ < 9900; lia
theorem cmp_eqI {a b : Int} (h : Q (.bool (decide (a = b))) H) : WCmp X n .Eq (.int a) (.int b) H Q := fun A P s va vb r S ⟨t, e⟩ ⟨u, e'⟩ => by
 subst e e'; exact PyProof.Rows.eq_int (.mk S (by rw [show (a == b) = decide (a = b) from rfl]; exact vr_bool) (Grow.refl _) h)
theorem cmp_neI {a b : Int} (h : Q (.bool (!decide (a = b))) H) : WCmp X n .NotEq (.int a) (.int b) H Q := fun A P s va vb r S ⟨t, e⟩ ⟨u, e'⟩ => by
 subst e e'; exact PyProof.Rows.ne_int (.mk S (by rw [show (a != b) = !decide (a = b) from rfl]; exact vr_bool) (Grow.refl _) h)
theorem cmp_neT {vs : List V} (f : V.flats vs = true) (d : V.deps vs <= 700) (h : Q (.bool false) H) : WCmp X n .NotEq (.tup vs) (.tup vs) H Q := fun A P s va vb r S q0 q1 => q0.onTup fun a xs m e ho rs => q1.onTup fun b ys m' e' ho' rs' => by
 subst e e'
 refine SeqAt.RcNeAt.tuples (e := fun O => true) ⟨_, ho, rfl, m, rfl⟩ ⟨_, ho', rfl, m', rfl⟩ (r.cl (k := 0) (by lia)) (eqT_items rs rs' (A := A.in1) fun i v u w e r1 r2 => eqT_flat 700 v (flats_at f e) (Nat.le_trans (deps_at e) d) (by have := r.cl (k := 701) (by lia); show A.units + 1 + 700 < cLine; omega) r1 r2) _ _ _ _ ?_
 rw [all_true, Bool.true_and, show (xs.toArray.size == ys.toArray.size) = true by simp [rs.length, rs'.length]]
 exact .mk S vr_bool (Grow.refl _) h
theorem cmp_neL {a b : Addr} {vs : List V} (e1 : H a = some (.list vs)) (e2 : H b = some (.list vs)) (f : V.flats vs = true) (d : V.deps vs <= 700) (h : Q (.bool false) H) : WCmp X n .NotEq (.ref a) (.ref b) H Q := fun A P s va vb r S ra rb => by
 rw [show va = _ from ra, show vb = _ from rb]
 refine cps fun G0 z0 => ?_
 obtain ⟨xs, m, ho, rs⟩ := (S.cell _ _ e1).2
 obtain ⟨ys, m', ho', rs'⟩ := (S.cell _ _ e2).2
 refine z0 ?_
 clear z0
 refine SeqAt.RcNeAt.lists (e := fun O => true) ⟨_, ho, rfl, m, rfl⟩ ⟨_, ho', rfl, m', rfl⟩ (by simp [rs.length, rs'.length]) (r.cl (k := 0) (by lia)) (eqT_items rs rs' (A := A.in1) fun i v u w e r1 r2 => eqT_flat 700 v (flats_at f e) (Nat.le_trans (deps_at e) d) (by have := r.cl (k := 701) (by lia); show A.units + 1 + 700 < cLine; lia) r1 r2) _ _ _ _ ?_
 rw [all_true]
 exact .mk S vr_bool (Grow.refl _) h
theorem cmp_neL0 {a b : Addr} {vs : List V} (e1 : H a = some (.list vs)) (e2 : H b = some (.list [])) (h : Q (.bool (!vs.isEmpty)) H) : WCmp X n .NotEq (.ref a) (.ref b) H Q := by
 induction vs with
 | nil => exact cmp_neL e1 e2 rfl (by decide) h
 | cons v r =>
  intro A P s va vb rm S ra rb
  rw [show va = _ from ra, show vb = _ from rb]
  refine cps fun G0 z0 => ?_
  obtain ⟨xs, m, ho, rs⟩ := (S.cell _ _ e1).2
  obtain ⟨ys, m', ho', rs'⟩ := (S.cell _ _ e2).2
  refine z0 ?_
  clear z0
  refine SeqAt.RcNeAt.lists_lengths ⟨_, ho, rfl, m, rfl⟩ ⟨_, ho', rfl, m', rfl⟩ (by have a := rs.length; have b := rs'.length; simp only [List.size_toArray, a, b, List.length_cons, List.length_nil]; simp) (rm.cl (k := 0) (by lia)) _ _ _ _ ?_
  exact .mk S vr_bool (Grow.refl _) h
theorem cmp_isNone {v : V} (h : Q (.bool (match v with | .none => true | _ => false)) H) : WCmp X n .Is v .none H Q := fun A P s va vb r S ra rb => by
 rw [show vb = _ from rb]
 cases v with
 | none => rw [show va = _ from ra]; exact wpAny_is_self rfl (.mk S vr_bool (Grow.refl _) h)
 | bool b => rw [show va = _ from ra]; exact is_none_ne (by intro x; cases x) (.mk S vr_bool (Grow.refl _) h)
 | int b => obtain ⟨t, e⟩ := ra; rw [e]; exact is_none_ne (by intro x; cases x) (.mk S vr_bool (Grow.refl _) h)
 | str b => obtain ⟨t, e⟩ := ra; rw [e]; exact is_none_ne (by intro x; cases x) (.mk S vr_bool (Grow.refl _) h)
 | bytes b => obtain ⟨t, e⟩ := ra; rw [e]; exact is_none_ne (by intro x; cases x) (.mk S vr_bool (Grow.refl _) h)
 | tup b => obtain ⟨a, _, _, e, _⟩ := ra; rw [e]; exact is_none_ne (by intro x; cases x) (.mk S vr_bool (Grow.refl _) h)
 | ref b => rw [show va = _ from ra]; exact is_none_ne (by intro x; cases x) (.mk S vr_bool (Grow.refl _) h)
theorem valueAt_lk {h : Heap} {k : Int} {vs es} (r : VPs h vs es) : (valueAt es k).isSome = (lk vs k).isSome := by
 cases e : lk vs k with
 | none => rw [r.none e]; rfl
 | some v => obtain ⟨x, hx, _⟩ := r.at e; rw [hx]; rfl
theorem cmp_notIn {k : Int} {a : Addr} {kvs : List (Int × V)} {ep : Nat} (e : H a = some (.dict kvs ep)) (h : Q (.bool (!(lk kvs k).isSome)) H) : WCmp X n .NotIn (.int k) (.ref a) H Q := fun A P s va vb r S ⟨t, ra⟩ rb => by
 subst ra; rw [show vb = _ from rb]
 obtain ⟨es, ho, rs⟩ := (S.cell _ _ e).2
 exact wpAny_notIn_of (knd := knd X.w) (k := k) (by show Value.isInt k (.int k t) = true; simp [Value.isInt]) (S.notSys e) ho.dictOf.mapOf (.mk (S.toks _) (by rw [valueAt_lk rs]; exact vr_bool) (Grow.refl _) h)
theorem cmp_in {k : Int} {a : Addr} {kvs : List (Int × V)} {ep : Nat} (e : H a = some (.dict kvs ep)) (h : Q (.bool (lk kvs k).isSome) H) : WCmp X n .In (.int k) (.ref a) H Q := fun A P s va vb r S ⟨t, ra⟩ rb => by
 subst ra; rw [show vb = _ from rb]
 obtain ⟨es, ho, rs⟩ := (S.cell _ _ e).2
 exact wpAny_in_of (knd := knd X.w) (k := k) (by show Value.isInt k (.int k t) = true; simp [Value.isInt]) (S.notSys e) ho.dictOf.mapOf (.mk (S.toks _) (by rw [valueAt_lk rs]; exact vr_bool) (Grow.refl _) h)
end
end
section
section
variable {X : Wd} {n : Nat} {fi : FI} {env : Env} {F : Frame} {H : Hp}
theorem we_tcall {x pos pos' e es} {id : String} {Q : V -> Hp -> Prop} (g : GetG fi.G x (.type id)) (h : WEs X n fi env F (e :: es) H (fun vs H₁ => WC X n (.type id) vs H₁ Q))
  (he : ∀ env, starEach (e :: es) env = (false, eval e env) :: starEach es env) (hp : ∀ env pos, (backTo pos (starEach es env)).any (·.1) = false) :
  WE X n fi env F (.Call (.Name x pos) (e :: es) [] pos') H Q := fun E A P s r S f' => by
 show wpAny _ _ (do callWith pos' (<- eval (.Name x pos) env) [] (backTo pos' (starEach (e :: es) env)) (backToKw pos' (keywordEach [] env))) _ _ _
 refine wpAny_bind (glob_tree g E S ?_)
 exact PySem.Pv.callWith_type1 (wpAny_mono (h E A P s pos' r S f') (fun vs s₁ p0 => p0.casesOn fun Vs H₁ rs S₁ g₁ q => q.use r S₁ rs g₁) fun O O x => x) (he env) (hp env pos')
noncomputable def WBs (X : Wd) (n : Nat) (fi : FI) (env : Env) (op : BoolOp) (F : Frame) (es : List Expr) (H : Hp) (Q : V -> Hp -> Prop) : Prop :=
 EnvOK X env fi -> ∀ A P s pos, Room n A -> St X P H s -> FrOK X fi P env F s.heap -> wpAny (MM X) A (boolOp pos op (evalEach es env)) (PV X P s.heap Q) noE s
theorem we_bool' {op es pos} {Q : V -> Hp -> Prop} (h : WBs X n fi env op F es H Q) : WE X n fi env F (.BoolOp op es pos) H Q := fun E A P s r S f => by
 rw [arm_eval_BoolOp]; exact h E A P s pos r S f
theorem wbs_one {op e} {Q : V -> Hp -> Prop} (h : WE X n fi env F e H Q) : WBs X n fi env op F [e] H Q := fun E A P s pos r S f => by
 show wpAny _ _ (boolOp pos op [eval e env]) _ _ _
 exact h E A P s r S f
theorem wbs_and {e e' es} {Q : V -> Hp -> Prop} (h : WE X n fi env F e H (fun v H₁ => WTr X n v H₁ (fun b H₂ => (b = true -> WBs X n fi env .And F (e' :: es) H₂ Q) /\ (b = false -> Q v H₂)))) : WBs X n fi env .And F (e :: e' :: es) H Q := fun E A P s pos r S f => by
 show wpAny _ _ (boolOp pos .And (eval e env :: eval e' env :: evalEach es env)) _ _ _
 show wpAny _ _ (eval e env >>= fun v => (standAt pos >>= fun O => holding [v] (truthy v) >>= fun t => match BoolOp.And, t with | .And, false | .Or, true => pure v | _, _ => boolOp pos .And (eval e' env :: evalEach es env))) _ _ _
 refine wpAny_bind (wpAny_mono (h E A P s r S f) (fun u s₁ p0 => p0.casesOn fun v H₁ ru S₁ g₁ q => wpAny_bind (wpAny_standAt (wpAny_bind (wpAny_holding ?_)))) fun O O x => x)
 refine wpAny_mono (q A P s₁ u r S₁ ru) (fun b s₂ p0 => p0.casesOn fun H₂ S₂ g₂ q₂ => ?_) fun O O x => x
 induction b with
 | false => exact wpAny_pure (.mk S₂ (ru.grow g₂) (g₁.trans g₂) (q₂.2 rfl))
 | true => exact wpAny_mono (q₂.1 rfl E A P s₂ pos r S₂ (f.grow (g₁.trans g₂))) (fun O O x => x.grow (g₁.trans g₂)) fun O O x => x
theorem we_not {e pos} {Q : V -> Hp -> Prop} (h : WE X n fi env F e H (fun v H₁ => WTr X n v H₁ (fun b H₂ => Q (.bool (!b)) H₂))) : WE X n fi env F (.UnaryOp .Not e pos) H Q := fun E A P s r S f => by
 simp only [arm_eval_UnaryOp]
 refine wpAny_bind (wpAny_mono (h E A P s r S f) (fun u s₁ p0 => p0.casesOn fun v H₁ ru S₁ g₁ q => wpAny_bind (wpAny_standAt (wpAny_holding ?_))) fun O O x => x)
 exact PyProof.Rows.not_of (wpAny_mono (q A P s₁ u r S₁ ru) (fun b s₂ p0 => p0.casesOn fun H₂ S₂ g₂ q₂ => .mk S₂ vr_bool (g₁.trans g₂) q₂) fun O O x => x)
theorem we_cmp2 {l op₁ op₂ r₁ r₂ pos} {Q : V -> Hp -> Prop} (h : WE X n fi env F l H (fun a H₁ => WE X n fi env F r₁ H₁ (fun b H₂ => WCmp X n op₁ a b H₂ (fun c H₃ => WTr X n c H₃ (fun t H₄ =>
   (t = true -> WE X n fi env F r₂ H₄ (fun d H₅ => WCmp X n op₂ b d H₅ Q)) /\ (t = false -> Q c H₄))))))
  (hm : lastMarks [op₁, op₂] [r₁, r₂] = false) : WE X n fi env F (.Compare l [op₁, op₂] [r₁, r₂] pos) H Q := fun E A P s r S f => by
 refine Compare_chain (wpAny_mono (h E A P s r S f) (fun va s₁ p0 => p0.casesOn fun a H₁ ra S₁ g₁ q => ?_) fun O O x => x) hm
 refine chain_link (wpAny_mono (q E A P s₁ r S₁ (f.grow g₁)) (fun vb s₂ p0 => p0.casesOn fun b H₂ rb S₂ g₂ q₂ => ?_) fun O O x => x)
 refine wpAny_mono (q₂ A P s₂ va vb r S₂ (ra.grow g₂) rb) (fun vc s₃ p0 => p0.casesOn fun c H₃ rc S₃ g₃ q₃ => ?_) fun O O x => x
 refine wpAny_mono (q₃ A P s₃ vc r S₃ rc) (fun t s₄ p0 => p0.casesOn fun H₄ S₄ g₄ q₄ => ?_) fun O O x => x
 have g14 := ((g₁.trans g₂).trans g₃).trans g₄
 induction t with
 | false => exact .mk S₄ (rc.grow g₄) g14 (q₄.2 rfl)
 | true =>
  rw [show evalEach [] env = [] from rfl]
  refine wpAny_bind (wpAny_holding (wpAny_mono (q₄.1 rfl E A P s₄ r S₄ (f.grow g14)) (fun vd s₅ p0 => p0.casesOn fun d H₅ rd S₅ g₅ q₅ => ?_) fun O O x => x))
  refine wpAny_bind (wpAny_standAt (wpAny_operate' ?_))
  exact q₅.use r S₅ (((rb.grow g₃).grow g₄).grow g₅) rd (g14.trans g₅)
noncomputable def WNs (X : Wd) (n : Nat) (fi : FI) (env : Env) : Frame -> List Str -> List V -> Hp -> (Frame -> Hp -> Prop) -> Prop
 | F, [], [], H, Q => Q F H
 | F, x :: xs, v :: vs, H, Q => WN X n fi env F x v H (fun F' H' => WNs X n fi env F' xs vs H' Q)
 | _, _, _, _, _ => False
theorem wns_run {xs : List Str} : ∀ {vs : List V} {F : Frame} {H : Hp} {Q : Frame -> Hp -> Prop}, WNs X n fi env F xs vs H Q -> EnvOK X env fi -> ∀ A P s us, Room n A -> St X P H s -> FrOK X fi P env F s.heap -> VRs s.heap vs us ->
  wpAny (MM X) A (assignInOrder (xs.map fun x => bindName env x) us) (PA X fi env P s.heap Q) noE s := by
 induction xs with
 | nil => exact fun {vs F H Q} => vs.casesOn (fun h E A P s us r S f ru => (show _ = _ from ru) ▸ wpAny_pure ⟨F, H, P, .refl _ _ _, S, f, Grow.refl _, h⟩) fun O O h => h.elim
 | cons x xs ih => exact fun {vs F H Q} => vs.casesOn (fun h => h.elim) fun v vs h E A P s us r S f ru => ru.elim fun u ru => ru.elim fun us' ru => ru.1 ▸
  wpAny_assignInOrder_more (wpAny_bindName (wpAny_mono (h E A P s u r S f ru.2.1) (fun O s₁ p0 => p0.casesOn fun F' H' P' p S₁ f₁ g₁ q => wpAny_mono (ih q E A P' s₁ us' r S₁ f₁ (ru.2.2.grow g₁)) (fun O O x => x.trans p g₁) fun O O x => x) fun O O x => x))
theorem VRs.rev {h : Heap} {vs : List V} : ∀ {xs : List Value}, VRs h vs xs -> VRs h vs.reverse xs.reverse := by
 induction vs with
 | nil => exact fun q => (show _ = _ from q) ▸ rfl
 | cons w vs ih => exact fun q => q.elim fun x q => q.elim fun r q => q.1 ▸ by rw [List.reverse_cons, List.reverse_cons]; exact (ih q.2.2).append (VRs.two q.2.1)
theorem wx_swap {ts : List Expr} {value : Expr} {k p pos} {ns : List Str} {Q : Fl -> Frame -> Hp -> Prop} (hw : EnvOK X env fi -> swappedStores [.Tuple ts k p] value env = pure (some ns))
  (h : WE X n fi env F value H (fun v H₁ => ∃ vs, v = .tup vs /\ vs.length = ns.length /\ WNs X n fi env F ns.reverse vs.reverse H₁ (fun F' H' => Q .next F' H')))
  (hs : swapsWithSole [.Tuple ts k p] value pos.line env = pure false) : WX X n fi env F (.Assign [.Tuple ts k p] value pos) H Q := fun E A P s r S f => by
 show wpAny _ _ (do standAt pos; if <- swapsWithSole [.Tuple ts k p] value pos.line env then _ else _) _ _ _
 rw [hs]
 show wpAny _ _ (do standAt pos; let v <- eval value env; assignStores env v (<- swappedStores [.Tuple ts k p] value env) _) _ _ _
 rw [hw E]
 refine wpAny_bind (wpAny_standAt (wpAny_bind (wpAny_mono (h E A P s r S f) (fun u s₁ p0 => p0.casesOn fun v H₁ ru S₁ g₁ q0 => ?_) fun O O x => x)))
 refine cps fun G0 z0 => ?_
 obtain ⟨vs, ev, hl, q⟩ := q0
 subst ev
 obtain ⟨a, xs, m, rfl, ho, rs⟩ := ru
 refine z0 ?_
 clear z0
 refine wpAny_bind (wpAny_pure ?_)
 unfold assignStores
 dsimp only
 refine wpAny_bind (wpAny_rule (wpAny_bind ?_))
 rw [show ns.length = xs.toArray.size by rw [List.size_toArray, rs.length, hl]]
 refine PySem.wpAny_unpackItems_tuple r.hd ⟨_, ho, rfl, m, rfl⟩ fun h' hx => ?_
 obtain ⟨S₂, g₂⟩ := S₁.ext hx
 refine wpAny_bind (wpAny_mono (wns_run q E A P _ _ r S₂ (f.grow (g₁.trans g₂)) (rs.grow g₂).rev) (fun O s₃ p0 => p0.casesOn fun F' H' P' p S₃ f₃ g₃ q₃ => ?_) fun O O x => x)
 exact wpAny_pure ⟨.next, F', H', P', rfl, p, S₃, f₃, (g₁.trans g₂).trans g₃, q₃⟩
end
end
section
noncomputable def LowIs (a : Nat) (v : Value) : Prop := (v = .none /\ a = 0) \/ ∃ t, v = .int a t
section
variable {prog : Program} {w : World} {A : Around} {E : Value -> Shared -> Prop} {s : Shared}
theorem adj_none (b n : Nat) (h : b <= n) : Builtin.Slice.sliceAdjust none (some (b : Int)) 1 (n : Int) = (0, (b : Int)) := by
 dsimp only [Builtin.Slice.sliceAdjust]
 have h1 : ¬ ((1 : Int) < 0) := by lia
 have h2 : ¬ ((b : Int) < 0) := by lia
 simp only [h1, h2, if_false]
 congr 1
 lia
theorem adj_some (a b n : Nat) (h : b <= n) (h' : a <= b) : Builtin.Slice.sliceAdjust (some (a : Int)) (some (b : Int)) 1 (n : Int) = ((a : Int), (b : Int)) := by
 dsimp only [Builtin.Slice.sliceAdjust]
 have h1 : ¬ ((1 : Int) < 0) := by lia
 have h2 : ¬ ((b : Int) < 0) := by lia
 have h3 : ¬ ((a : Int) < 0) := by lia
 simp only [h1, h2, h3, if_false]
 congr 1 <;> lia
theorem places_run (a b : Nat) (h : a <= b) : Builtin.Slice.slicePlaces (a : Int) (b : Int) 1 = b - a := by
 unfold Builtin.Slice.slicePlaces
 have h1 : (1 : Int) > 0 := by lia
 simp only [h1, if_true, Int.ediv_one]
 split <;> lia
theorem sliceApplied_run {sl : Addr} {a b n : Nat} {vl : Value} {u : Tok} {Q : Int × Int × Nat -> Shared -> Prop} (hs : s.heap.IsSliceOf sl vl (.int b u) .none) (hl : LowIs a vl) (hab : a <= b) (hb : b <= n) (h : Q ((a : Int), 1, b - a) s) :
  wpAny (model prog w) A (Builtin.Slice.sliceApplied (.ref sl) (pure (n : Int))) Q E s := by
 obtain ⟨os, hos, hcs, hds⟩ := id hs
 refine wpAny_bind (wpAny_bind (wpAny_field hos hds (x := vl) rfl (wpAny_bind (wpAny_field hos hds (x := .int b u) rfl (wpAny_bind (wpAny_field hos hds (x := .none) rfl (wpAny_pure ?_)))))))
 refine wpAny_bind (slicePart_none ?_)
 show wpAny _ _ (if ((1 : Int) == 0) = true then _ else _) _ _ s
 rw [if_neg (by decide)]
 rcases hl with ⟨rfl, rfl⟩ | ⟨t, rfl⟩
 ·refine wpAny_bind (slicePart_none (wpAny_bind (slicePart_int (wpAny_bind (wpAny_pure ?_)))))
  show wpAny _ _ (match Builtin.Slice.sliceAdjust none (some (b : Int)) 1 (n : Int) with | (lo, hi) => pure (lo, (1 : Int), Builtin.Slice.slicePlaces lo hi 1)) _ _ s
  rw [adj_none b n hb]
  show wpAny _ _ (pure ((0 : Int), (1 : Int), Builtin.Slice.slicePlaces ((0 : Nat) : Int) (b : Int) 1)) _ _ s
  rw [places_run 0 b hab]
  exact wpAny_pure h
 ·refine wpAny_bind (slicePart_int (wpAny_bind (slicePart_int (wpAny_bind (wpAny_pure ?_)))))
  show wpAny _ _ (match Builtin.Slice.sliceAdjust (some (a : Int)) (some (b : Int)) 1 (n : Int) with | (lo, hi) => pure (lo, (1 : Int), Builtin.Slice.slicePlaces lo hi 1)) _ _ s
  rw [adj_some a b n hb hab]
  show wpAny _ _ (pure ((a : Int), (1 : Int), Builtin.Slice.slicePlaces (a : Int) (b : Int) 1)) _ _ s
  rw [places_run a b hab]
  exact wpAny_pure h
theorem pick_run' (xs : Array Value) (a k : Nat) : ((List.range k).filterMap fun (k : Nat) => xs[((a : Int) + (k : Int) * 1).toNat]?).toArray = ((xs.toList.drop a).take k).toArray := by
 have e : (fun (k : Nat) => xs[((a : Int) + (k : Int) * 1).toNat]?) = fun k => xs[a + k]? := by
  funext k
  have : ((a : Int) + (k : Int) * 1).toNat = a + k := by lia
  rw [this]
 rw [e]
 have := pick_run xs a k
 rw [List.filterMap_map] at this
 have e2 : ((fun x => xs[x]?) ∘ fun x => a + x) = fun k => xs[a + k]? := rfl
 rw [e2] at this
 rw [this]
theorem getItem_tuple_run {t sl : Addr} {items : Array Value} {a b : Nat} {vl : Value} {u : Tok} {Q : Value -> Shared -> Prop} (ht : IsTup s.heap t items) (hs : s.heap.IsSliceOf sl vl (.int b u) .none) (hl : LowIs a vl) (hab : a <= b) (hb : b <= items.size) (hne : b - a < items.size)
  (h : Q (.ref s.heap.objs.size) { s with heap := s.heap.push { cls := .type "tuple", data := .seq ((items.toList.drop a).take (b - a)).toArray } })
  (hsz : items.size <= sizeLine) : wpAny (model prog w) A (getItem (.ref t) (.ref sl)) Q E s := by
 have hdrop : sizeOk (.seq ((items.toList.drop a).take (b - a)).toArray) := by
  show ((items.toList.drop a).take (b - a)).toArray.size <= sizeLine
  simp only [List.size_toArray, List.length_take, List.length_drop, Array.length_toList]
  omega
 obtain ⟨os, hos, hcs, hds⟩ := id hs
 have hTs : s.TypeIs (.ref sl) "slice" := ⟨os, hos, hcs⟩
 unfold getItem
 try with_reducible refine wpAny_holding ?_
 first | refine wpAny_bind (wpAny_pure ?_) | skip
 refine wpAny_bind (wpAny_sequenceKey ht.typeIs (by decide) ?_)
 refine wpAny_bind (wpAny_callSpecial?_slot (name := Str.ofString "__getitem__") ht.typeIs slot_tuple_getitem
  (wpAny_call_entry slot_tuple_getitem ht.typeIs entry_tuple_getitem ?_ (args_tuple_getitem _ _)))
 show wpAny _ _ (Builtin.Tuple.tupleItemsOf (.ref t) >>= _) _ _ s
 refine wpAny_bind (tupleItemsOf_ ht ?_)
 refine wpAny_bind (wpAny_typeOf hTs ?_)
 rw [if_pos (by decide)]
 refine wpAny_bind (sliceApplied_run hs hl hab hb ?_)
 have hno : ¬ (((a : Int) == 0 && (1 : Int) == 1 && (b - a) == items.size) = true) := by
  have : ((b - a) == items.size) = false := by rw [beq_eq_false_iff_ne]; lia
  rw [this]; simp
 show wpAny _ _ (if ((a : Int) == 0 && (1 : Int) == 1 && (b - a) == items.size) = true then _ else _) _ _ s
 rw [if_neg hno, pick_run' items a (b - a)]
 first
  | exact wpAny_bind (m := Builtin.Tuple.tupleExact _) (wpAny_newObj_type (wpAny_pure ⟨_, rfl, wpAny_pure h⟩) hdrop)
  | exact wpAny_bind (m := Builtin.Tuple.tupleExact _) (wpAny_newObj_type (wpAny_bind (wpAny_pure (wpAny_pure ⟨_, rfl, wpAny_pure h⟩))) hdrop)
  | exact wpAny_bind (wpAny_bind (m := Builtin.Tuple.tupleExact _) (wpAny_newObj_type (wpAny_pure (wpAny_pure ⟨_, rfl, wpAny_pure h⟩)) hdrop))
  | exact wpAny_bind (wpAny_bind (m := Builtin.Tuple.tupleExact _) (wpAny_newObj_type (wpAny_pure ⟨_, rfl, wpAny_pure h⟩) hdrop))
end
section
variable {X : Wd} {n : Nat} {fi : FI} {env : Env} {F : Frame} {H : Hp} {Q : V -> Hp -> Prop}
noncomputable def WP (X : Wd) (n : Nat) (fi : FI) (env : Env) (F : Frame) (e : Option Expr) (H : Hp) (Q : Option Int -> Hp -> Prop) : Prop :=
 EnvOK X env fi -> ∀ A P s, Room n A -> St X P H s -> FrOK X fi P env F s.heap -> wpAny (MM X) A (evalPart e env) (fun u s' => ∃ lo H', IsPart u lo /\ St X P H' s' /\ Grow s.heap s'.heap /\ Q lo H') noE s
theorem wp_none {Q : Option Int -> Hp -> Prop} (h : Q none H) : WP X n fi env F none H Q := fun E A P s r S f => by
 simp only [evalPart_none]; exact wpAny_pure ⟨none, H, .none, S, Grow.refl _, h⟩
theorem wp_some {e : Expr} {Q : Option Int -> Hp -> Prop} (h : WE X n fi env F e H (fun v H' => ∃ i, v = .int i /\ Q (some i) H')) : WP X n fi env F (some e) H Q := fun E A P s r S f => by
 simp only [evalPart_some]
 refine wpAny_mono (h E A P s r S f) (fun u s' p0 => p0.casesOn fun v H' rv S' g q0 => ?_) fun O O x => x
 obtain ⟨i, ev, q⟩ := q0
 subst ev
 obtain ⟨t, rfl⟩ := rv
 exact ⟨some i, H', .int i t, S', g, q⟩
noncomputable def WSl (X : Wd) (n : Nat) (o : V) (lo hi : Option Int) (H : Hp) (Q : V -> Hp -> Prop) : Prop :=
 ∀ A P s vo a l u, Room n A -> St X P H s -> VR s.heap o vo -> IsPart l lo -> IsPart u hi -> s.heap.IsSliceOf a l u .none -> wpAny (MM X) A (getItem vo (.ref a)) (PV X P s.heap Q) noE s
noncomputable def tyOf (H : Hp) : V -> Option String
 | .tup _ => some "tuple"
 | .bytes _ => some "bytes"
 | .ref a => match H a with | some (.list _) => some "list" | _ => none
 | _ => none
theorem tyOf_is {P : Pin} {s : Shared} (S : St X P H s) {o : V} {T : String} (e : tyOf H o = some T) {vo : Value} (r : VR s.heap o vo) : s.TypeIs vo T := by
 cases o with
 | tup vs => cases e; obtain ⟨a, xs, m, rfl, ho, _⟩ := r; exact ⟨_, ho, rfl⟩
 | bytes b => cases e; obtain ⟨t, rfl⟩ := r; rfl
 | ref a =>
  have e : (match H a with | some (.list _) => some "list" | _ => none) = some T := e
  cases q : H a with
  | none => rw [q] at e; exact none_no e
  | some c =>
   rw [q] at e
   induction c with
   | list vs => cases e; rw [show vo = _ from r]; obtain ⟨xs, m, ho, _⟩ := (S.cell _ _ q).2; exact ⟨_, ho, rfl⟩
   | _ => exact none_no e
 | _ => exact none_no e
noncomputable def TyP (X : Wd) (H : Hp) (o : V) (T : String) : Prop := ∀ P s vo, St X P H s -> VR s.heap o vo -> s.TypeIs vo T
theorem we_slice {value : Expr} {lower upper : Option Expr} {p pos : Pos} (h : WE X n fi env F value H (fun o H₁ => WP X n fi env F lower H₁ (fun lo H₂ => WP X n fi env F upper H₂ (fun hi H₃ =>
   (∃ T id, TyP X H₃ o T /\ typeLookup (.type T) "__getitem__" = pure (some (.builtin id))) /\ WSl X n o lo hi H₃ Q)))) : WE X n fi env F (.Subscript value (.Slice lower upper none p) pos) H Q := fun E A P s r S f => by
 simp only [eval_Subscript]
 refine wpAny_bind (wpAny_mono (h E A P s r S f) (fun vo s₁ p0 => p0.casesOn fun o H₁ ro S₁ g₁ q => wpAny_bind (wpAny_holding (wpAny_Slice ?_))) fun O O x => x)
 refine wpAny_mono (q E A P s₁ r S₁ (f.grow g₁)) (fun l s₂ q0 => q0.elim fun lo q1 => q1.elim fun H₂ q2 => q2.elim fun pl q3 => q3.elim fun S₂ q4 => q4.elim fun g₂ q₂ => ?_) fun O O x => x.elim
 refine wpAny_mono (q₂ E A P s₂ r S₂ (f.grow (g₁.trans g₂))) (fun u s₃ q => q.elim fun hi q => q.elim fun H₃ q => q.elim fun pu q => q.elim fun S₃ q => q.elim fun g₃ q => q.1.elim fun T q1 => q1.elim fun id q1 => ?_) fun O O x => x.elim
 simp only [evalPart_none]
 refine wpAny_pure ?_
 have S₄ := S₃.push { cls := .type "slice", data := .fields #[l, u, .none] }
 have g₄ : Grow s₃.heap _ := Grow.push s₃.heap { cls := .type "slice", data := .fields #[l, u, .none] }
 have ro' := ((ro.grow g₂).grow g₃).grow g₄
 have hTs := q1.1 _ _ _ S₄ ro'
 have fin : wpAny (MM X) A (operate [.ref s₃.heap.objs.size, vo] (getItem vo (.ref s₃.heap.objs.size))) (fun r s₃ => wpAny (MM X) A (letTemporaryGo value vo r >>= fun O => pure r) (PV X P s.heap Q) noE s₃) noE { s₃ with heap := s₃.heap.push { cls := .type "slice", data := .fields #[l, u, .none] } } :=
  wpAny_operating (wpAny_mono (q.2 A P _ vo _ l u r S₄ ro' pl pu (Heap.IsSliceOf.new ..)) (fun y s₅ z => wpAny_bind (wpAny_letTemporaryGo (wpAny_pure (z.grow ((g₁.trans g₂).trans (g₃.trans g₄)))))) fun O O x => x)
 refine wpAny_bind (wpAny_standAt ?_)
 refine wpAny_bind ?_
 rw [getitemInPython_of_ne hTs.not_modules]
 refine wpAny_bind (wpAny_specialOf hTs q1.2 ?_)
 exact wpAny_pure (wpAny_bind fin)
theorem VRs.ofTake {h : Heap} {vs xs} (r : VRs h vs xs) (a k : Nat) : VRs h ((vs.drop a).take k) ((xs.drop a).take k) := (r.drop a).take k
theorem sl_tup {vs : List V} {lo : Option Int} {a b : Nat} (hlo : lo = some (a : Int) \/ (lo = none /\ a = 0)) (hab : a <= b) (hb : b <= vs.length) (hne : b - a < vs.length) (hz : vs.length <= 10000000) (h : Q (.tup ((vs.drop a).take (b - a))) H) : WSl X n (.tup vs) lo (some (b : Int)) H Q := fun A P s vo sl l u r S q0 pl pu hs => q0.onTup fun t xs m eo ho rs => by
 subst eo
 have hl := rs.length
 refine cps fun G0 z0 => ?_
 cases pu
 refine z0 ?_
 clear z0
 have low : LowIs a l := by
  rcases hlo with rfl | ⟨rfl, rfl⟩
  ·cases pl; exact .inr ⟨_, rfl⟩
  ·cases pl; exact .inl ⟨rfl, rfl⟩
 refine getItem_tuple_run (items := xs.toArray) ⟨_, ho, rfl, m, rfl⟩ hs low hab (by rw [List.size_toArray, hl]; exact hb) (by rw [List.size_toArray, hl]; exact hne) ?_ (by rw [List.size_toArray, hl]; exact le_line hz)
 exact .mk (S.push _) (vr_tup (m := 0) (Heap.get?_push_size _ rfl) ((rs.ofTake a (b - a)).grow (Grow.push _ _))) (Grow.push _ _) h
theorem ty_tup {vs : List V} : ∃ T id, TyP X H (.tup vs) T /\ typeLookup (.type T) "__getitem__" = pure (some (.builtin id)) := ⟨_, _, fun O O O S r => tyOf_is S rfl r, slot_tuple_getitem.lookup⟩
theorem ty_list {a : Addr} {vs : List V} (e : H a = some (.list vs)) : ∃ T id, TyP X H (.ref a) T /\ typeLookup (.type T) "__getitem__" = pure (some (.builtin id)) := ⟨"list", _, fun O O O S r => tyOf_is S (by show (match H a with | some (.list _) => some "list" | _ => none) = _; rw [e]) r, PySem.F.slot_list_getitem.lookup⟩
theorem ty_bytes {b} : ∃ T id, TyP X H (.bytes b) T /\ typeLookup (.type T) "__getitem__" = pure (some (.builtin id)) := ⟨_, _, fun O O O S r => tyOf_is S rfl r, FB.slot_bytes_getitem.lookup⟩
theorem sl_listTo {a : Addr} {vs : List V} {b : Nat} (e : H a = some (.list vs)) (hz : vs.length <= 10000000) (h : ∀ c, H c = none -> Q (.ref c) (H.set c (.list (vs.take b)))) : WSl X n (.ref a) none (some (b : Int)) H Q := fun A P s vo sl l u r S ro pl pu hs => by
 rw [show vo = _ from ro]
 refine cps fun G0 z0 => ?_
 obtain ⟨xs, m, ho, rs⟩ := (S.cell _ _ e).2
 refine z0 ?_
 clear z0
 have hl := rs.length
 refine wpAny_getItem_list_slice ⟨_, ho, rfl, m, rfl⟩ hs pl pu .none (by simp) ?_ (by rw [List.size_toArray, hl]; exact le_line hz)
 have e1 : slicePick xs.toArray none (some (b : Int)) none = (xs.take b).toArray := by
  rw [slicePick_plain]
  show ((xs.drop 0).take (clipAt xs.toArray.size b - 0)).toArray = _
  have : clipAt xs.toArray.size b = min b xs.length := by rw [clipAt_nat]; simp
  simp only [this, List.drop_zero, Nat.sub_zero, kmk_take_min]
 rw [e1]
 exact .mk (S.alloc (CR.list (n := 0) (Heap.get?_push_size _ rfl) ((rs.take b).grow (Grow.push _ _)))) vr_ref (Grow.push _ _) (h _ S.none_size.1)
theorem ty_pin {a : Addr} {xs : List Value} {m : Nat} (e : X.B.get? a = some (lstO xs m)) : ∃ T id, TyP X H (.ref a) T /\ typeLookup (.type T) "__getitem__" = pure (some (.builtin id)) := ⟨"list", _, fun O O O S r => by rw [show _ = _ from r]; exact ⟨_, S.keep _ _ e, rfl⟩, PySem.F.slot_list_getitem.lookup⟩
theorem sl_pinTo {a : Addr} {vs : List V} {b : Nat} {xs : List Value} {m : Nat} (e : X.B.get? a = some (lstO xs m)) (rs' : ∀ h, VRs h vs xs) (hz : vs.length <= 10000000) (h : ∀ c, H c = none -> Q (.ref c) (H.set c (.list (vs.take b)))) : WSl X n (.ref a) none (some (b : Int)) H Q := fun A P s vo sl l u r S ro pl pu hs => by
 rw [show vo = _ from ro]
 have ho := S.keep _ _ e
 have rs := rs' s.heap
 have hl := rs.length
 refine wpAny_getItem_list_slice ⟨_, ho, rfl, m, rfl⟩ hs pl pu .none (by simp) ?_ (by rw [List.size_toArray, hl]; exact le_line hz)
 have e1 : slicePick xs.toArray none (some (b : Int)) none = (xs.take b).toArray := by
  rw [slicePick_plain]
  show ((xs.drop 0).take (clipAt xs.toArray.size b - 0)).toArray = _
  have : clipAt xs.toArray.size b = min b xs.length := by rw [clipAt_nat]; simp
  simp only [this, List.drop_zero, Nat.sub_zero, kmk_take_min]
 rw [e1]
 exact .mk (S.alloc (CR.list (n := 0) (Heap.get?_push_size _ rfl) ((rs.take b).grow (Grow.push _ _)))) vr_ref (Grow.push _ _) (h _ S.none_size.1)
noncomputable def pickB (b : Array UInt8) (x y : Nat) : Array UInt8 := ((b.toList.drop x).take (y - x)).toArray
theorem sl_bytes {b : Array UInt8} {lo hi : Option Int} {x y : Nat} (hlo : lo = some (x : Int)) (hhi : (hi = some (y : Int) /\ y <= b.size) \/ (hi = none /\ y = b.size)) (hx : x <= b.size) (hz : b.size <= 10000000) (h : Q (.bytes (pickB b x y)) H) :
  WSl X n (.bytes b) lo hi H Q := fun A P s vo sl l u r S ⟨t, eo⟩ pl pu hs => by
 subst eo hlo
 have e1 : KBy.picked b (some (x : Int)) hi = pickB b x y := by
  rw [KBc.picked_eq]
  have k : (hi.elim b.size (clipAt b.size)) = y := by
   rcases hhi with ⟨rfl, hy⟩ | ⟨rfl, rfl⟩
   ·show clipAt b.size y = y; rw [clipAt_nat]; lia
   ·rfl
  have k2 : clipAt b.size (x : Int) = x := by rw [clipAt_nat]; lia
  simp only [k, Option.elim_some, k2]; rfl
 refine getItem_meets (typeIs_bytes _ _ _) (by decide) FB.slot_bytes_getitem FB.entry_bytes_getitem (FB.args_bytes_getitem_2 _ _) (KBc.meets_slice2 b t _ pl pu) ⟨hs, Nat.le_trans (KBc.size_picked_le b _ hi) (le_line hz), fun t' k => ?_⟩
 rw [e1]
 exact PV.mk (S.toks _) vr_bytes (Grow.refl _) h
end
end
section
section
variable {X : Wd} {n : Nat} {fi : FI} {env : Env} {F : Frame} {H : Hp} {Q : V -> Hp -> Prop}
theorem we_dict0 {pos} (h : ∀ a ep, H a = none -> Q (.ref a) (H.set a (.dict [] ep))) : WE X n fi env F (.Dict [] [] pos) H Q := fun E A P s r S f =>
 wpAny_Dict_empty (.mk (S.alloc (c := .dict [] 0) (CR.dict (es := []) (by
  refine cps fun G0 z0 => ?_
  obtain ⟨ep, h⟩ := (Heap.DictOf.new (knd := knd X.w) s.heap).dictAt
  obtain ⟨o, es, h1, h2, h3, h4⟩ := id h
  rw [Heap.get?_push_size _ rfl] at h1
  cases h1
  cases h3
  refine z0 ?_
  clear z0
  exact h) rfl)) vr_ref (Grow.push _ _) (h _ _ S.none_size.1))
noncomputable def mergeI (acc : List (Int × V)) (kvs : List (Int × V)) : List (Int × V) := kvs.foldl (fun a p => putI a p.1 p.2) acc
theorem VPs.merge {h : Heap} {kvs} : ∀ {es acc aes}, VPs h kvs es -> VPs h acc aes -> VPs h (mergeI acc kvs) (merged aes es) := by
 induction kvs with
 | nil => exact fun q b => (show _ = _ from q) ▸ b
 | cons p r ih => exact fun {es acc aes} q b => q.elim fun x q => q.elim fun r' q => q.1 ▸ ih (acc := putI acc p.1 p.2) (aes := stored aes p.1 x) q.2.2 (b.put q.2.1)
noncomputable def WPr (X : Wd) (n : Nat) (fi : FI) (env : Env) (F : Frame) (ps : List (Expr × Expr)) (H : Hp) (Q : List (Int × V) -> Hp -> Prop) : Prop :=
 EnvOK X env fi -> ∀ A P s pos, Room n A -> St X P H s -> FrOK X fi P env F s.heap ->
  wpAny (MM X) A (evalPairs (ps.map fun p => (eval p.1 env, (do let x <- eval p.2 env; standAt pos; pure x)))) (fun vs s' => ∃ kvs es H', VPs s'.heap kvs es /\ Carries (knd X.w) vs es /\ St X P H' s' /\ Grow s.heap s'.heap /\ Q kvs H') noE s
theorem wpr_nil {Q : List (Int × V) -> Hp -> Prop} (h : Q [] H) : WPr X n fi env F [] H Q := fun E A P s pos r S f => evalPairs_nil ⟨[], [], H, rfl, trivial, S, Grow.refl _, h⟩
theorem wpr_cons {k v : Expr} {ps : List (Expr × Expr)} {Q : List (Int × V) -> Hp -> Prop} (h : WE X n fi env F k H (fun kv H₁ => ∃ i, kv = .int i /\ WE X n fi env F v H₁ (fun vv H₂ => WPr X n fi env F ps H₂ (fun r H₃ => Q ((i, vv) :: r) H₃)))) : WPr X n fi env F ((k, v) :: ps) H Q := fun E A P s pos r S f => by
 simp only [List.map_cons]
 refine evalPairs_cons (wpAny_mono (h E A P s r S f) (fun u s₁ p0 => p0.casesOn fun kv H₁ ru S₁ g₁ q0 => ?_) fun O O x => x)
 obtain ⟨i, ek, q⟩ := q0
 subst ek
 obtain ⟨t, rfl⟩ := ru
 refine wpAny_bind (wpAny_mono (q E A P s₁ r S₁ (f.grow g₁)) (fun y s₂ p0 => p0.casesOn fun vv H₂ ry S₂ g₂ q₂ => wpAny_bind (wpAny_standAt (wpAny_pure ?_))) fun O O x => x)
 refine wpAny_mono (q₂ E A P s₂ pos r S₂ (f.grow (g₁.trans g₂))) (fun vs s₃ q0 => q0.elim fun kvs q1 => q1.elim fun es q2 => q2.elim fun H₃ q3 => q3.elim fun rp q4 => q4.elim fun c q5 => q5.elim fun S₃ q6 => q6.elim fun g₃ q₃ => ?_) fun O O x => x
 exact ⟨(i, vv) :: kvs, (i, y) :: es, H₃, ⟨y, es, rfl, ry.grow g₃, rp⟩, ⟨by show Value.isInt i (.int i t) = true; simp [Value.isInt], rfl, c⟩, S₃, (g₁.trans g₂).trans g₃, q₃⟩
theorem we_dict {ps : List (Expr × Expr)} {keys : List (Option Expr)} {values : List Expr} {pos} (hk : keys = ps.map fun p => some p.1) (hv : values = ps.map (·.2)) (h0 : ps ≠ []) (hlen : ps.length <= 15)
  (h : WPr X n fi env F ps H (fun kvs H₁ => ∀ a ep, H₁ a = none -> Q (.ref a) (H₁.set a (.dict (mergeI [] kvs) ep))))
  (hs : ∀ env, (evalEachOpt (ps.map fun p => some p.1) env).zip ((evalEach (ps.map (·.2)) env).map fun v => do let x <- v; standAt pos; pure x) = (ps.map fun p => (eval p.1 env, (do let x <- eval p.2 env; standAt pos; pure x : Sem Value))).map fun p => (some p.1, p.2)) :
  WE X n fi env F (.Dict keys values pos) H Q := fun E A P s r S f => by
 subst hk hv
 obtain ⟨ep0, hd0⟩ := (Heap.DictOf.new (knd := knd X.w) s.heap).dictAt
 have z := S.none_size
 have S₁ := (S.push { cls := .type "dict", data := .dict #[] }).pinIn (a := s.heap.objs.size) z.2 z.1 (Heap.get?_push_size _ rfl)
 have f₁ := (f.grow (Grow.push s.heap { cls := .type "dict", data := .dict #[] })).pins (pinAt_le (o := { cls := .type "dict", data := .dict #[] }) z.2)
 refine wpAny_Dict_pairs (knd := knd X.w) (hs env) (by simpa using h0) (by simpa using hlen) (wpAny_mono (h E A _ _ pos r S₁ f₁) (fun vs s₁ q0 => q0.elim fun kvs q1 => q1.elim fun es q2 => q2.elim fun H₁ q3 => q3.elim fun rp q4 => q4.elim fun c q5 => q5.elim fun S₂ q6 => q6.elim fun g₂ q => ?_) fun O O x => x)
 have pin := S₂.pin s.heap.objs.size _ pinAt_self
 have dz : s₁.heap.DictOf (knd X.w) s.heap.objs.size [] := hd0.dictOf.at fun o e => by rw [Heap.get?_push_size _ rfl] at e; cases e; exact pin
 refine ⟨es, c, dz, fun h' hd hs' => ?_⟩
 obtain ⟨ep, hd⟩ := hd.dictAt
 have Hn := S₂.notCell (a := s.heap.objs.size) pinAt_self
 have S₃ := S₂.drop S.base (pinAt_le z.2)
 have g₃ : Grow s₁.heap h' := grow_same pin (fun O O e => by simp at e) hs'
 obtain ⟨S₄, _⟩ := S₃.extBut (a := s.heap.objs.size) (tk := s₁.toks + vs.length) z.2 Hn hs'.extBut (fun o e => by rw [pin] at e; cases e; exact fun O O e => by simp at e)
 refine .mk (H' := H₁.set s.heap.objs.size (.dict (mergeI [] kvs) ep)) ⟨S₄.base, S₄.pin, fun b c e => ?_, S₄.gens, S₄.os⟩ vr_ref ((Grow.push _ _).trans (g₂.trans g₃)) (q _ _ Hn)
 unfold Hp.set at e
 split at e
 ·rename_i k; subst k; cases e; exact ⟨z.2, CR.dict hd ((VPs.merge (acc := []) (aes := []) rp rfl).grow g₃)⟩
 ·exact S₄.cell b c e
theorem lk_getD {h : Heap} {k : Int} {vs es} (r : VPs h vs es) {dv : V} {d : Value} (rd : VR h dv d) : VR h ((lk vs k).getD dv) ((valueAt es k).getD d) := by
 cases e : lk vs k with
 | none => rw [r.none e]; exact rd
 | some v => obtain ⟨x, hx, rx⟩ := r.at e; rw [hx]; exact rx
theorem wc_get1 {a : Addr} {kvs : List (Int × V)} {ep : Nat} {k : Int} (e : H a = some (.dict kvs ep)) (h : Q ((lk kvs k).getD .none) H) : WC X n (.builtin "dict.get") [.ref a, .int k] H Q := fun A P s vals r S rv => by
 obtain ⟨x, y, rfl, ra, ⟨t, ek⟩⟩ := rv.pair
 subst ek; rw [show x = _ from ra]
 obtain ⟨es, ho, rs⟩ := (S.cell _ _ e).2
 exact call_meetsIn PySem.F.slot_dict_get ho.dictOf.typeIs PySem.F.entry_dict_get (PySem.F.args_dict_get_2 _ _) (meets_dict_get (knd X.w) a (k := k) (by show Value.isInt k (.int k t) = true; simp [Value.isInt]) (S.notSys e)) ⟨_, ho.dictOf.mapOf, PV.mk (S.toks _) (lk_getD rs vr_none) (Grow.refl _) h⟩
theorem wc_get2 {a : Addr} {kvs : List (Int × V)} {ep : Nat} {k : Int} {dv : V} (e : H a = some (.dict kvs ep)) (h : Q ((lk kvs k).getD dv) H) : WC X n (.builtin "dict.get") [.ref a, .int k, dv] H Q := fun A P s vals r S rv => by
 refine cps fun G0 z0 => ?_
 obtain ⟨x, l, rfl, ra, rv⟩ := rv
 obtain ⟨y, z, rfl, ⟨t, ek⟩, rz⟩ := VRs.pair rv
 refine z0 ?_
 clear z0
 subst ek; rw [show x = _ from ra]
 obtain ⟨es, ho, rs⟩ := (S.cell _ _ e).2
 exact call_meetsIn PySem.F.slot_dict_get ho.dictOf.typeIs PySem.F.entry_dict_get (PySem.F.args_dict_get_3 _ _ _) (meets_dict_get_default (knd X.w) a (k := k) (by show Value.isInt k (.int k t) = true; simp [Value.isInt]) (S.notSys e) z) ⟨_, ho.dictOf.mapOf, PV.mk (S.toks _) (lk_getD rs rz) (Grow.refl _) h⟩
noncomputable def isT : List String := ["int", "bool", "bytes", "str", "tuple"]
noncomputable def isN (t k : Nat) : Option Bool := bif Nat.beq t k then some true else bif Nat.beq t 0 && Nat.beq k 1 then some false else none
noncomputable def V.tag (v : V) : Nat := v.casesOn 9 (fun O => 9) (fun O => 0) (fun O => 3) (fun O => 2) (fun O => 4) fun O => 9
theorem isN_inv {t k : Nat} {b : Bool} (h : isN t k = some b) : (t = k /\ b = true) \/ (t = 0 /\ k = 1 /\ b = false) := by
 unfold isN at h
 cases q : Nat.beq t k with
 | true => rw [q] at h; cases h; exact .inl ⟨Nat.eq_of_beq_eq_true q, rfl⟩
 | false =>
  rw [q] at h
  cases q2 : Nat.beq t 0 && Nat.beq k 1 with
  | true => rw [q2] at h; cases h; exact .inr ⟨Nat.eq_of_beq_eq_true ((Bool.and_eq_true _ _).mp q2).1, Nat.eq_of_beq_eq_true ((Bool.and_eq_true _ _).mp q2).2, rfl⟩
  | false => rw [q2] at h; cases h
theorem isi_ok {v : V} {T : String} {k : Nat} {b : Bool} (eT : isT[k]? = some T) (e : isN v.tag k = some b) {A : Around} {P : Pin} {s : Shared} {h0 : Heap} (S : St X P H s) {u : Value} (ru : VR s.heap v u) (g : Grow h0 s.heap) (h : Q (.bool b) H) : wpAny (MM X) A (call (.builtin "isinstance") [u, .type T]) (PV X P h0 Q) noE s := by
 refine cps fun G z => ?_
 rcases isN_inv e with ⟨rfl, rfl⟩ | ⟨h0, rfl, rfl⟩
 ·cases v with
  | int => cases eT; obtain ⟨t, rfl⟩ := ru; exact z (IsiPair.int_int (.mk S vr_bool g h))
  | tup => cases eT; obtain ⟨a, xs, m, rfl, ho, _⟩ := ru; exact z (IsiPair.tuple_tuple ho rfl (.mk S vr_bool g h))
  | str => cases eT; obtain ⟨t, rfl⟩ := ru; exact z (IsiPair.str_str (.mk S vr_bool g h))
  | bytes => cases eT; obtain ⟨t, rfl⟩ := ru; exact z (PyProof.Rows.call_isinstance_yes (Tx := "bytes") rfl (by kernel_rfl) (by rw [isSubtype_type]; kernel_rfl) (.mk S vr_bool g h))
  | _ => exact none_no eT
 ·cases eT
  cases v with
  | int => obtain ⟨t, rfl⟩ := ru; exact z (IsiPair.int_bool (.mk (S.toks _) vr_bool g h))
  | _ => cases h0
theorem we_isi {x y : Str} {pos ypos pos' : Pos} {e : Expr} {T : String} (g : GetG fi.G x (.builtin "isinstance")) (g2 : GetG fi.G y (.type T)) {k : Nat} (eT : isT[k]? = some T) (h : WE X n fi env F e H (fun v H₁ => ∃ b, isN v.tag k = some b /\ Q (.bool b) H₁))
  (he : ∀ env, starEach [e, .Name y ypos] env = (false, eval e env) :: (false, eval (.Name y ypos) env) :: []) (hp : ∀ env pos, (backTo pos (starEach [e, .Name y ypos] env)).any (·.1) = false) :
  WE X n fi env F (.Call (.Name x pos) [e, .Name y ypos] [] pos') H Q := fun E A P s r S f' => by
 show wpAny _ _ (do callWith pos' (<- eval (.Name x pos) env) [] (backTo pos' (starEach [e, .Name y ypos] env)) (backToKw pos' (keywordEach [] env))) _ _ _
 refine wpAny_bind (glob_tree g E S ?_)
 refine callWith_builtin (hp env pos') ?_
 rw [he]
 refine evalArgs_plain (spliced_cons (wpAny_mono (h E A P s r S f') (fun u s₁ p0 => p0.casesOn fun v H₁ ru S₁ g₁ q0 => ?_) fun O O x => x))
 obtain ⟨b, eb, q⟩ := q0
 refine spliced_cons (show wpAny _ _ (eval (.Name y ypos) env) _ _ _ from glob_tree g2 E S₁ ?_)
 exact spliced_nil (isi_ok eT eb S₁ ru g₁ q)
end
end
section
section
variable {prog : Program} {w : World} {A : Around} {E : Value -> Shared -> Prop} {s : Shared} {b : Array UInt8} {t : Tok}
noncomputable abbrev PBy (b : Array UInt8) : Nat -> Value -> Prop := fun i v => ∃ c u, b[i]? = some c /\ v = .int (c.toNat : Int) u
theorem hint_bytes {Q : Bool -> Shared -> Prop} (h : Q false s) : wpAny (model prog w) A (Builtin.List.listLengthHint (.bytes b t)) Q E s := by
 have hT : s.TypeIs (.bytes b t) "bytes" := typeIs_bytes s b t
 unfold Builtin.List.listLengthHint
 refine wpAny_bind (wpAny_specialOf hT FB.slot_bytes_len.lookup ?_)
 generalize hid : ("bytes.__len__" : String) = id0
 wp_delta
 rw [show splitId id0 = some ("bytes", "__len__") from by subst hid; decide +kernel]
 subst hid
 refine wpAny_bind (wpAny_isInstance (T := "bytes") (b := true) hT (by rw [isSubtype_type]; kernel_rfl) ?_)
 refine wpAny_ite_split (fun hab => absurd hab (by decide)) (fun O => ?_)
 refine wpAny_ite_split (fun O => ?_) (fun hab => absurd (by decide +kernel) hab)
 refine wpAny_bind (wpAny_typeOf hT ?_)
 exact wpAny_pure h
theorem extend_bytes {R : Result -> Shared -> Prop} (hh : A.handled = none) (S : Addr) (res : Value) (c₀ : Nat) (hS : s.heap.get? S = some { cls := .type "list", data := .seq #[] c₀ })
  (hR : ∀ h' tk acc' c', (∀ b o, b ≠ S -> s.heap.get? b = some o -> h'.get? b = some o) -> h'.get? S = some { cls := .type "list", dict := none, data := .seq acc' c', slots := #[] } -> ItemsOf (PBy b) acc' b.size -> R (.ok (.ret res)) { s with heap := h', toks := tk }) (hn : b.size <= sizeLine) :
  wpAny (model prog w) A.in1 (Builtin.List.listExtendWith (.ref S) (.bytes b t) res)
   (fun fin s' => match fin with | .done f => R (.ok f) s' | .again c' => c'.quiet = true /\ codeAny (model prog w) A c' R s') (fun e s' => R (.error e) s') s := by
 have hSI : S ≠ s.heap.objs.size := Nat.ne_of_lt (Heap.lt_size hS)
 have hSf : S ∉ [s.heap.objs.size] := by simp only [List.mem_cons, List.not_mem_nil, or_false]; exact hSI
 let oI : Obj := { cls := .type "bytes_iterator", data := .fields #[.bytes b t, .int 0 0] }
 have W := KBw.walks (prog := prog) (w := w) (A := A.in1) hh s.heap.objs.size b t
 have st : KBw.IsBytesIter (s.heap.push oI) s.heap.objs.size b t 0 := ⟨_, Heap.get?_push_size _ rfl, rfl, rfl⟩
 have key : ∀ (h : Heap) (c₁ tk : Nat), KBw.IsBytesIter h s.heap.objs.size b t 0 -> (∀ b o, b ≠ S -> s.heap.get? b = some o -> h.get? b = some o) ->
   h.get? S = some { cls := .type "list", data := .seq #[] c₁ } -> codeAny (model prog w) A (.builtin "list.extend.loop" ⟨[.ref S, .ref s.heap.objs.size, res], []⟩) R { s with heap := h, toks := tk } := by
  intro h c₁ tk hst hk hS₁
  refine codeAny_extend_loopS W.toS hn S hSf res b.size 0 _ #[] c₁ rfl (Nat.zero_le _) hst hS₁ (ItemsOf.nil _) fun s' acc' c' hm hS' hacc => ?_
  rw [Moved.eq_with hm]
  refine hR s'.heap s'.toks acc' c' (fun b o hb e => hm.heap b o (fun hmem => ?_) (hk b o hb e)) hS' hacc
  rcases List.mem_cons.mp hmem with e' | hmem
  ·exact hb e'
  ·exact absurd (Heap.lt_size e) (by rw [List.mem_singleton.mp hmem]; exact Nat.lt_irrefl _)
 dsimp only [Builtin.List.listExtendWith]
 refine wpAny_bind (wpAny_typeOf (T := "bytes") (typeIs_bytes s b t) ?_)
 have h1 : Builtin.List.listSameRef (.ref S) (.bytes b t) = false := rfl
 have h2 : (Value.type "bytes" == Value.type "list") = false := by decide
 have h3 : (Value.type "bytes" == Value.type "tuple") = false := by decide
 simp only [h1, h2, h3, Bool.or_false, Bool.false_eq_true, if_false]
 refine wpAny_bind (KBw.pyIter_bytes ?_)
 have hS₁ := Heap.get?_push_of_some oI hS
 refine wpAny_bind (wpAny_holding (hint_bytes ?_))
 refine wpAny_ite_split (fun O => ?_) (fun O => wpAny_pure ⟨plainId_quiet PySem.F.plain_extend_loop _, key _ c₀ _ st (fun b o O e => Heap.get?_push_of_some _ e) hS₁⟩)
 refine wpAny_bind (wpAny_rule ?_)
 refine wpAny_bind ?_
 show wpAny _ _ (updateSeq S (·.push .none) >>= fun O => updateSeq S (·.pop)) _ _ _
 refine wpAny_bind (wpAny_updateSeq hS₁ rfl ?_)
 have hS₂ := Heap.get?_update_self (Obj.mapSeq (·.push Value.none)) hS₁ rfl
 refine wpAny_updateSeq (hz := by seq_fits) hS₂ rfl ?_
 have hS₃ := Heap.get?_update_self (Obj.mapSeq (·.pop)) hS₂ rfl
 refine wpAny_pure ⟨plainId_quiet PySem.F.plain_extend_loop _, key _ _ _ ?_ (fun b o hb e => ?_) hS₃⟩
 ·refine W.frame 0 _ _ st fun b hb o e => ?_
  have hbS : b ≠ S := fun h => hSf (h ▸ hb)
  exact (Heap.get?_update_other _ _ (Ne.symm hbS)).trans ((Heap.get?_update_other _ _ (Ne.symm hbS)).trans e)
 ·exact (Heap.get?_update_other _ _ (Ne.symm hb)).trans ((Heap.get?_update_other _ _ (Ne.symm hb)).trans (Heap.get?_push_of_some _ e))
theorem init_bytes {R : Result -> Shared -> Prop} (hh : A.handled = none) (S : Addr) (hS : s.heap.get? S = some { cls := .type "list", data := .seq #[] })
  (hR : ∀ h' tk acc' c', (∀ b o, b ≠ S -> s.heap.get? b = some o -> h'.get? b = some o) -> h'.get? S = some { cls := .type "list", dict := none, data := .seq acc' c', slots := #[] } -> ItemsOf (PBy b) acc' b.size -> R (.ok (.ret .none)) { s with heap := h', toks := tk }) (hn : b.size <= sizeLine) :
  wpAny (model prog w) A.in1 (Builtin.«list.__init__» ⟨[.ref S, .bytes b t], []⟩)
   (fun fin s' => match fin with | .done f => R (.ok f) s' | .again c' => c'.quiet = true /\ codeAny (model prog w) A c' R s') (fun e s' => R (.error e) s') s := by
 show wpAny _ _ (do let old <- Builtin.List.listItems (.ref S); Builtin.List.listUpdate (.ref S) (fun O => #[]); letGo old.toList.reverse; Builtin.List.listExtendWith (.ref S) (.bytes b t) .none) _ _ s
 refine wpAny_bind ?_
 unfold Builtin.List.listItems
 refine wpAny_bind (wpAny_seqItems hS rfl (wpAny_pure ?_))
 show wpAny _ _ (updateSeq S (fun O => #[]) >>= fun O => letGo (#[] : Array Value).toList.reverse >>= fun O => Builtin.List.listExtendWith (.ref S) (.bytes b t) .none) _ _ s
 refine wpAny_bind (wpAny_updateSeq hS rfl ?_)
 have hS₂ := Heap.get?_update_self (Obj.mapSeq (fun O => (#[] : Array Value))) hS rfl
 have oth : ∀ b o, b ≠ S -> s.heap.get? b = some o -> (s.heap.update S (Obj.mapSeq (fun O => (#[] : Array Value)))).get? b = some o :=
  fun b o hb e => (Heap.get?_update_other _ _ (Ne.symm hb)).trans e
 refine wpAny_bind (wpAny_letGo ?_)
 refine extend_bytes hh S .none _ hS₂ (fun h' tk acc' c' hk hS' hacc => ?_) hn
 exact hR h' tk acc' c' (fun b o hb e => hk b o hb (oth b o hb e)) hS' hacc
theorem call_list_bytes {Q : Value -> Shared -> Prop} (hh : A.handled = none) (hn : b.size <= sizeLine)
  (hQ : ∀ h' tk acc' c', (∀ b o, s.heap.get? b = some o -> h'.get? b = some o) -> h'.get? s.heap.objs.size = some { cls := .type "list", dict := none, data := .seq acc' c', slots := #[] } -> ItemsOf (PBy b) acc' b.size -> Q (.ref s.heap.objs.size) { s with heap := h', toks := tk }) :
  wpAny (model prog w) A (call (.type "list") [.bytes b t]) Q E s := by
 refine callType_codes (Q₁ := fun obj s₁ => obj = .ref s.heap.objs.size /\ s₁ = { s with heap := s.heap.push { cls := .type "list", data := .seq #[] } }) PySem.F.called_list (PySem.F.typeCall_list_1 _) PySem.F.entry_list_init
  (code_list_new _ ⟨rfl, rfl⟩) fun obj s₁ h₁ => ?_
 obtain ⟨rfl, rfl⟩ := h₁
 have hS : (s.heap.push { cls := .type "list", data := .seq #[] }).get? s.heap.objs.size = some { cls := .type "list", data := .seq #[] } := Heap.get?_push_size _ rfl
 refine ⟨⟨_, hS, rfl⟩, PySem.F.args_list_init_2 _ _, init_bytes (A := A.in1) hh _ hS (fun h' tk acc' c' hk hS' hacc => ?_) hn⟩
 exact ⟨rfl, hQ h' tk acc' c' (fun b o e => hk b o (Nat.ne_of_lt (Heap.lt_size e)) (Heap.get?_push_of_some _ e)) hS' hacc⟩
end
noncomputable def octs (b : Array UInt8) : List Int := b.toList.map fun c => (c.toNat : Int)
theorem vrs_of {h : Heap} {vs : List V} : ∀ {xs : List Value}, xs.length = vs.length -> (∀ (j : Nat) v x, vs[j]? = some v -> xs[j]? = some x -> VR h v x) -> VRs h vs xs := by
 induction vs with
 | nil => exact fun {xs} => xs.casesOn (fun O O => rfl) fun O O e => (Nat.succ_ne_zero _ e).elim
 | cons v vs ih => exact fun {xs} => xs.casesOn (fun e => (Nat.succ_ne_zero _ (Eq.symm e)).elim) fun x xs e r => ⟨x, xs, rfl, r 0 v x rfl rfl, ih (Nat.succ.inj e) fun j => r (j + 1)⟩
section
variable {X : Wd} {n : Nat} {fi : FI} {env : Env} {F : Frame} {H : Hp} {Q : V -> Hp -> Prop}
theorem St.newCell {P : Pin} {s : Shared} (S : St X P H s) {h' : Heap} {tk : Nat} (hk : ∀ b o, s.heap.get? b = some o -> h'.get? b = some o) {c : Cell} {a : Addr} (hn : s.heap.get? a = none) (hc : CR X.w h' c a) : St X P (H.set a c) { s with heap := h', toks := tk } := by
 obtain ⟨S', g⟩ := S.grown hk (tk := tk)
 obtain ⟨p, q⟩ := none_of_size S hn
 refine ⟨S.base, S'.pin, fun b c' e => ?_, S.gens, S.os⟩
 unfold Hp.set at e
 split at e
 ·rename_i k; subst k; cases e; exact ⟨p, hc⟩
 ·exact S'.cell b c' e
theorem size_none (h : Heap) : h.get? h.objs.size = none := by
 cases e : h.get? h.objs.size with
 | none => rfl
 | some o => exact absurd (Heap.lt_size e) (Nat.lt_irrefl _)
theorem wc_listB {b : Array UInt8} (hl : b.size <= 10000000) (h : ∀ c, H c = none -> Q (.ref c) (H.set c (.list ((octs b).map V.int)))) : WC X n (.type "list") [.bytes b] H Q := fun A P s vals r S rv => by
 obtain ⟨x, rfl, t, ea⟩ := rv.one
 subst ea
 refine call_list_bytes r.hd (le_line hl) fun h' tk acc c' hk ho hacc => ?_
 refine .mk (S.newCell hk (size_none _) (CR.list (xs := acc.toList) (n := c') (by simpa [lstO] using ho) (vrs_of (by simp [octs, hacc.1]) fun j v x h1 h2 => ?_))) vr_ref (fun a xs m e => hk _ _ e) (h _ S.none_size.1)
 obtain ⟨cc, u, e1, rfl⟩ := hacc.2 j x (by rw [<- Array.getElem?_toList]; exact h2)
 simp only [octs, List.map_map, List.getElem?_map, Array.getElem?_toList, e1, Option.map_some, Function.comp] at h1
 cases h1
 exact vr_int
theorem intAt {xs : Array Value} {i : Nat} {v : Value} {ns : List Int} (r : IntsAre xs.toList ns) (h : xs[i]? = some v) : ∃ t, v = .int (ns.getD i 0) t := by
 obtain ⟨xs⟩ := xs
 simp only [List.getElem?_toArray] at h
 simp only at r
 induction r generalizing i with
 | nil => simp at h
 | cons n t r ih =>
  induction i with
  | zero => simp at h; exact ⟨t, by simp [h]⟩
  | succ i => simp at h; obtain ⟨t, e⟩ := ih h; exact ⟨t, by simpa using e⟩
theorem wc_sumL {a : Addr} {ns : List Int} (e : H a = some (.list (ns.map V.int))) (h : ∀ i, Q (.int i) H) : WC X n (.builtin "sum") [.ref a] H Q := fun A P s vals r S rv => by
 obtain ⟨x, rfl, ra⟩ := rv.one
 rw [show x = _ from ra]
 refine cps fun G0 z0 => ?_
 obtain ⟨xs, m, ho, rs⟩ := (S.cell _ _ e).2
 refine z0 ?_
 clear z0
 have il : s.heap.IsList a xs.toArray := ⟨_, ho, rfl, m, rfl⟩
 have hlt : a < s.heap.objs.size := Heap.lt_size ho
 refine call_sum_walkG (wpAny_pyIter_list il ⟨_, _, _, _, _, _, fun i => ns.getD i 0, rfl, Walks.list (A := A.in1) r.hd _ a (Nat.ne_of_lt hlt) xs.toArray, ⟨⟨_, Heap.get?_push_size _ rfl, rfl, rfl⟩, il.push _⟩, ?_, fun i v hv => intAt (ns := ns) rs.ints hv, fun h' tk t' hk => ?_⟩)
 ·intro b hb
  show b < (s.heap.push _).objs.size
  rw [Heap.size_push]
  simp only [List.mem_cons, List.not_mem_nil, or_false] at hb
  rcases hb with rfl | rfl
  ·exact Nat.lt_succ_self _
  ·exact Nat.lt_succ_of_lt hlt
 ·have kk : ∀ b o, s.heap.get? b = some o -> h'.get? b = some o := fun b o e => hk b o (by simp only [List.mem_singleton]; exact Nat.ne_of_lt (Heap.lt_size e)) (Heap.get?_push_of_some _ e)
  obtain ⟨S', g⟩ := S.grown kk (tk := tk)
  exact .mk S' vr_int g (h _)
theorem wc_maxL {a : Addr} {ns : List Int} (e : H a = some (.list (ns.map V.int))) (hne : 0 < ns.length) (h : ∀ M, M ∈ ns -> (∀ x ∈ ns, x <= M) -> Q (.int M) H) : WC X n (.builtin "max") [.ref a] H Q := fun A P s vals r S rv => by
 obtain ⟨x, rfl, ra⟩ := rv.one
 rw [show x = _ from ra]
 refine cps fun G0 z0 => ?_
 obtain ⟨vs, m, ho, rs⟩ := (S.cell _ _ e).2
 have hi := rs.ints
 obtain ⟨xs, e'⟩ := hi.allInts.items
 refine z0 ?_
 clear z0
 have hns : ns = xs.toList.map (·.1) := by rw [<- hi.numsOf, <- nums_intItems, <- e']
 have hsz : 0 < xs.size := by
  have h3 := hne; rw [hns, List.length_map, Array.length_toList] at h3; exact h3
 have il : s.heap.IsList a vs.toArray := ⟨_, ho, rfl, m, rfl⟩
 rw [e'] at il
 refine max_intList r.hd il hsz fun v h' tk hv hk => ?_
 obtain ⟨t, rfl⟩ := intItems_at hv
 obtain ⟨h1, h2⟩ := argBest_gt (numAt xs) (xs.size - 1)
 obtain ⟨S', g⟩ := S.grown hk (tk := tk)
 refine .mk S' vr_int g (h _ ?_ fun a ha => ?_)
 ·rw [hns, numAt_eq]; exact getD_mem (by rw [List.length_map, Array.length_toList]; omega)
 ·rw [hns] at ha
  obtain ⟨j, hj, rfl⟩ := mem_getD ha
  rw [List.length_map, Array.length_toList] at hj
  rw [<- numAt_eq]; exact h2 j (by lia)
theorem wc_minT {ns : List Int} (hne : 0 < ns.length) (h : ∀ M, M ∈ ns -> (∀ x ∈ ns, M <= x) -> Q (.int M) H) : WC X n (.builtin "min") [.tup (ns.map V.int)] H Q := fun A P s vals r S rv => by
 refine cps fun G0 z0 => ?_
 obtain ⟨x, rfl, a, vs, m, ra, ho, rs⟩ := rv.one
 refine z0 ?_
 clear z0
 subst ra
 have hi := rs.ints
 obtain ⟨xs, e'⟩ := hi.allInts.items
 have hns : ns = xs.toList.map (·.1) := by rw [<- hi.numsOf, <- nums_intItems, <- e']
 have hsz : 0 < xs.size := by
  have h3 := hne; rw [hns, List.length_map, Array.length_toList] at h3; exact h3
 have il : s.heap.IsTuple a vs.toArray := ⟨_, ho, rfl, m, rfl⟩
 rw [e'] at il
 have hlt : a < s.heap.objs.size := Heap.lt_size ho
 refine call_min_walk (wpAny_pyIter_tuple il ⟨_, _, _, _, _, _, _, rfl, Walks.tuple (A := A.in1) r.hd _ a (Nat.ne_of_lt hlt) (intItems xs), ⟨⟨_, Heap.get?_push_size _ rfl, rfl, rfl⟩, il.push _⟩, ?_, by simpa [intItems] using hsz, CmpOf.ints_lt (numAt xs) (fun O O => intItems_at), fun v h' tk hP hk => ?_⟩)
 ·intro b hb
  show b < (s.heap.push _).objs.size
  rw [Heap.size_push]
  simp only [List.mem_cons, List.not_mem_nil, or_false] at hb
  rcases hb with rfl | rfl
  ·exact Nat.lt_succ_self _
  ·exact Nat.lt_succ_of_lt hlt
 ·have kk : ∀ b o, s.heap.get? b = some o -> h'.get? b = some o := fun b o e => hk b o (by simp only [List.mem_singleton]; exact Nat.ne_of_lt (Heap.lt_size e)) (Heap.get?_push_of_some _ e)
  have hP' : (intItems xs)[argBest (fun i j => decide (numAt xs i < numAt xs j)) (xs.size - 1)]? = some v := by simpa [intItems] using hP
  obtain ⟨t, rfl⟩ := intItems_at hP'
  obtain ⟨h1, h2⟩ := argBest_lt (numAt xs) (xs.size - 1)
  obtain ⟨S', g⟩ := S.grown kk (tk := tk)
  refine .mk S' vr_int g (h _ ?_ fun a ha => ?_)
  ·rw [hns, numAt_eq]; exact getD_mem (by rw [List.length_map, Array.length_toList]; omega)
  ·rw [hns] at ha
   obtain ⟨j, hj, rfl⟩ := mem_getD ha
   rw [List.length_map, Array.length_toList] at hj
   rw [<- numAt_eq]; exact h2 j (by lia)
end
end
section
section
variable {X : Wd} {n : Nat} {fi : FI} {env : Env} {F : Frame} {H : Hp} {Q : V -> Hp -> Prop}
theorem VPs.keys {h : Heap} {vs} : ∀ {es}, VPs h vs es -> es.map (·.1) = vs.map (·.1) := by
 induction vs with
 | nil => exact fun q => (show _ = _ from q) ▸ rfl
 | cons p vs ih => exact fun q => q.elim fun y q => q.elim fun r q => q.1 ▸ congrArg (p.1 :: ·) (ih q.2.2)
theorem wc_sortD {a : Addr} {kvs : List (Int × V)} {ep : Nat} (e : H a = some (.dict kvs ep)) (h64 : kvs.length < 64) (h : ∀ c (ns : List Int), H c = none -> ns.Perm (kvs.map (·.1)) -> ns.Pairwise (· <= ·) -> Q (.ref c) (H.set c (.list (ns.map V.int)))) : WC X n (.builtin "sorted") [.ref a] H Q := fun A P s vals r S rv => by
 obtain ⟨x, rfl, ra⟩ := rv.one
 rw [show x = _ from ra]
 obtain ⟨es, ho, rs⟩ := (S.cell _ _ e).2
 have K := kdl_dict (knd := knd X.w) (kvs := es) (ep := ep) (S.notSys e)
 refine call_function_entry kind_sorted plain_sorted entry_sorted (args_sorted1 _) ?_
 dsimp only [Builtin.«sorted»]
 refine wpAny_bind (m := checkCount "sorted" 1 1 _) (wpAny_pure ?_)
 refine wpAny_bind (kdu_collect (A := A.in1) K r.hd ho (by rw [rs.len]; exact le_line (by lia)) fun h' tk acc hk hacc => ?_)
 have hl : acc.toList.length = es.length := by rw [Array.length_toList]; exact hacc.1
 have hI : IntsAre acc.toList (kvs.map (·.1)) := by
  rw [<- rs.keys]
  have : ∀ (l : List Value) (ks : List (Int × Value)), l.length = ks.length -> (∀ (j : Nat) v, l[j]? = some v -> ∃ k x, ks[j]? = some (k, x) /\ (knd X.w).is k v = true) -> IntsAre l (ks.map (·.1)) := by
   intro l
   induction l with
   | nil => intro ks hk _; induction ks with | nil => exact .nil | cons _ _ => simp at hk
   | cons v l ih =>
    intro ks hk hv
    cases ks with
    | nil => simp at hk
    | cons p ks =>
     obtain ⟨k, x, e1, e2⟩ := hv 0 v rfl
     simp at e1; subst e1
     obtain ⟨t, rfl⟩ := Value.isInt_shape (show Value.isInt k v = true from e2)
     exact .cons _ _ (ih ks (by simpa using hk) fun j v hj => by simpa using hv (j + 1) v (by simpa using hj))
  exact this _ _ hl fun j v hj => hacc.2 j v (by rw [<- Array.getElem?_toList]; exact hj)
 refine wpAny_bind (wpAny_newList ?_ (by rw [hl, rs.len]; exact le_line (by lia)))
 have hoL : (h'.push { cls := .type "list", data := .seq acc.toList.toArray }).get? h'.objs.size = some (seqObj "list" acc.toList.toArray 0) := Heap.get?_push_size _ rfl
 refine wpAny_bind (wpAny_holding (wpAny_call_entry slot_list_sort ⟨_, hoL, rfl⟩ entry_list_sort (list_sort_tree hoL hI (by rw [hl, rs.len]; exact h64) fun out ns' a1 a2 a3 => ⟨_, rfl, ?_⟩) (args_list_sort _)))
 refine wpAny_pure ⟨_, rfl, ?_⟩
 obtain ⟨e1, he1⟩ := sortedHeap_at (out := out) hoL
 have hn : s.heap.get? h'.objs.size = none := by
  cases q : s.heap.get? h'.objs.size with
  | none => rfl
  | some o => exact absurd (Heap.lt_size (hk _ _ q)) (Nat.lt_irrefl _)
 have keep : ∀ b o, s.heap.get? b = some o -> (sortedHeap (h'.push { cls := .type "list", data := .seq acc.toList.toArray }) h'.objs.size acc.toList out).get? b = some o := fun b o q => by
  have h1 := hk _ _ q
  have lt := Heap.lt_size h1
  rw [sortedHeap_old (Nat.ne_of_lt lt) (by rw [Heap.size_push]; exact Nat.lt_succ_of_lt lt)]
  exact Heap.get?_push_of_some _ h1
 refine PV.mk (S.newCell keep hn (CR.list (xs := out.toList) (n := e1) (by simpa [lstO] using he1) ?_)) vr_ref (fun a xs m q => keep _ _ q) (h _ ns' (none_of_size S hn).2 a2 a3)
 clear he1 keep
 generalize out.toList = l at a1
 clear a2 a3
 induction a1 with
 | nil => rfl
 | cons i t _ ih => exact ⟨_, _, rfl, vr_int, ih⟩
theorem Itr.bytes (it : Addr) (b : Array UInt8) (t : Tok) : Itr X it (fun O => True) (fun vs h => ∃ i, KBw.IsBytesIter h it b t i /\ ((octs b).map V.int).drop i = vs) where
 live := fun vs h q => q.elim fun i q => q.1.elim fun o q => ⟨o, q.1, fun O O e => by have c := q.2.2; rw [e] at c; cases c⟩
 frame := fun vs h h' q O e => q.elim fun i q => ⟨i, q.1.elim fun o q => ⟨o, e.trans q.1, q.2⟩, q.2⟩
 item := fun A P H s v vs Q E hh S hK q hQ => q.elim fun i q => by
  have hi := q.1
  have hd := q.2
  obtain ⟨hv, hd'⟩ := drop_cons hd
  simp only [octs, List.map_map, List.getElem?_map, Array.getElem?_toList] at hv
  cases hb : b[i]? with
  | none => rw [hb] at hv; cases hv
  | some c =>
   rw [hb] at hv; cases hv
   exact KBw.next_item hi hb fun h' hi' hs' => hQ _ h' _ vr_int ⟨i + 1, hi', hd'⟩ hs'.extBut
 done := fun A P H s Q E hh S hK q hQ => q.elim fun i q => by
  have hi := q.1
  have hd := q.2
  refine KBw.next_end hh hi ?_ fun h' he => hQ h' s.toks he
  have := List.drop_eq_nil_iff.mp hd
  simp [octs] at this
  simp; omega
 self := fun A s vs Q E q h => q.elim fun i q => KBw.pyIter_self q.1 h
theorem wit_bytes {b : Array UInt8} : WIt X n (.bytes b) H ((octs b).map V.int) (fun O => True) := fun A P s u r S q0 => q0.elim fun t eu => by
 subst eu
 exact KBw.pyIter_bytes ⟨_, _, rfl, Itr.bytes _ b t, ⟨0, ⟨_, Heap.get?_push_size _ rfl, rfl, rfl⟩, rfl⟩, S.push _, Grow.push _ _, S.none_size.2, S.none_size.1⟩
noncomputable def lets (x : Str) : List V := x.cps.toList.map fun c => .str ⟨#[c]⟩
theorem Itr.ascii (it : Addr) (x : Str) (t : Tok) : Itr X it (fun O => True) (fun vs h => ∃ i, h.IsStrIter it "str_ascii_iterator" x t i /\ (lets x).drop i = vs) where
 live := fun vs h q => q.elim fun i q => q.1.elim fun o q => ⟨o, q.1, fun O O e => by have c := q.2.2; rw [e] at c; cases c⟩
 frame := fun vs h h' q O e => q.elim fun i q => ⟨i, q.1.elim fun o q => ⟨o, e.trans q.1, q.2⟩, q.2⟩
 item := fun A P H s v vs Q E hh S hK q hQ => q.elim fun i q => by
  have hi := q.1
  have hd := q.2
  obtain ⟨hv, hd'⟩ := drop_cons hd
  simp only [lets, List.getElem?_map, Array.getElem?_toList] at hv
  cases hb : x.cps[i]? with
  | none => rw [hb] at hv; cases hv
  | some c =>
   rw [hb] at hv; cases hv
   exact wpAny_pyNext_ascii_item hi hb fun h' hi' hs' => hQ _ h' _ vr_str ⟨i + 1, hi', hd'⟩ hs'.extBut
 done := fun A P H s Q E hh S hK q hQ => q.elim fun i q => by
  have hi := q.1
  have hd := q.2
  refine wpAny_pyNext_ascii_end hh hi ?_ fun h' he => hQ h' s.toks he
  have := List.drop_eq_nil_iff.mp hd
  simp [lets] at this
  simp; omega
 self := fun A s vs Q E q h => q.elim fun i q => wpAny_pyIter_striter_ascii q.1 h
theorem wit_str {x : Str} (ha : x.cps.all (· < 128) = true) : WIt X n (.str x) H (lets x) (fun O => True) := fun A P s u r S ⟨t, eu⟩ => by
 subst eu
 exact wpAny_pyIter_ascii ha ⟨_, _, rfl, Itr.ascii _ x t, ⟨0, ⟨_, Heap.get?_push_size _ rfl, rfl, rfl⟩, rfl⟩, S.push _, Grow.push _ _, S.none_size.2, S.none_size.1⟩
theorem keyiter_frame {h h' : Heap} {it d : Addr} {i n ep : Nat} (x : h.IsKeyIter it d i n ep) (e : h'.get? it = h.get? it) : h'.IsKeyIter it d i n ep := (x).elim fun o q1 => q1.elim fun a b => ⟨o, e.trans a, b⟩
theorem Itr.keys (it d : Addr) (kvs : List (Int × V)) (ep : Nat) : Itr X it (fun H => H d = some (.dict kvs ep)) (fun vs h => ∃ i, h.IsKeyIter it d i kvs.length ep /\ (kvs.map fun p => V.int p.1).drop i = vs) where
 live := fun vs h q => q.elim fun i q => q.1.elim fun o q => ⟨o, q.1, fun O O e => by have c := q.2.2; rw [e] at c; cases c⟩
 frame := fun vs h h' q O e => q.elim fun i q => ⟨i, keyiter_frame q.1 e, q.2⟩
 item := fun A P H s v vs Q E hh S hK q hQ => q.elim fun i q => by
  have hi := q.1
  have hd := q.2
  obtain ⟨es, ho, rs⟩ := (S.cell _ _ hK).2
  obtain ⟨hv, hd'⟩ := drop_cons hd
  simp only [List.getElem?_map] at hv
  cases hb : kvs[i]? with
  | none => rw [hb] at hv; cases hv
  | some p =>
   rw [hb] at hv; cases hv
   have hkey : (es.map (·.1))[i]? = some p.1 := by rw [rs.keys, List.getElem?_map, hb]; rfl
   rw [List.getElem?_map] at hkey
   cases hq : es[i]? with
   | none => rw [hq] at hkey; cases hkey
   | some q =>
    rw [hq] at hkey; simp at hkey
    obtain ⟨k, x⟩ := q
    simp only at hkey; subst hkey
    have hl := rs.len
    refine wpAny_pyNext_dict_item (knd := knd X.w) (kvs := es) (by rw [hl]; exact hi) ho hq ?_
    intro key h' hk hi' hs'
    obtain ⟨t, rfl⟩ := Value.isInt_shape (show Value.isInt p.1 key = true from hk)
    exact hQ _ h' s.toks vr_int ⟨i + 1, by rw [<- hl]; exact hi', hd'⟩ hs'.extBut
 done := fun A P H s Q E hh S hK q hQ => q.elim fun i q => by
  have hi := q.1
  have hd := q.2
  refine cps fun G0 z0 => ?_
  obtain ⟨es, ho, rs⟩ := (S.cell _ _ hK).2
  refine z0 ?_
  clear z0
  have hl := rs.len
  refine wpAny_pyNext_dict_end (knd := knd X.w) (kvs := es) hh (by rw [hl]; exact hi) ho ?_ fun h' he => hQ h' s.toks he
  have := List.drop_eq_nil_iff.mp hd
  simp at this
  simp [hl]; omega
 self := fun A s vs Q E q h => q.elim fun i q => wpAny_pyIter_keyiter q.1 h
theorem wit_dict {d : Addr} {kvs : List (Int × V)} {ep : Nat} (e : H d = some (.dict kvs ep)) : WIt X n (.ref d) H (kvs.map fun p => V.int p.1) (fun H => H d = some (.dict kvs ep)) := fun A P s u r S ru => by
 rw [show u = _ from ru]
 obtain ⟨es, ho, rs⟩ := (S.cell _ _ e).2
 exact wpAny_pyIter_dict (knd := knd X.w) (S.notSys e) ho ⟨_, _, rfl, Itr.keys _ d kvs ep, ⟨0, ⟨_, Heap.get?_push_size _ rfl, rfl, by rw [rs.len]; rfl⟩, rfl⟩, S.push _, Grow.push _ _, S.none_size.2, S.none_size.1⟩
theorem wg_str {value slice} {x : Str} {i : Int} {c : Nat} (h0 : 0 <= i) (hc : x.cps[i.toNat]? = some c) (h1 : i < 2 ^ 63) (h : Q (.str ⟨#[c]⟩) H)
  (hs : ∀ o i, subscripted slice false o i = operate [o, i] (getItem o i)) : W2 X n (subscriptTail value slice) (.str x) (.int i) H Q := fun A P s va vb r S ⟨u, ra⟩ ⟨t, rb⟩ => by
 subst rb ra
 refine tail_any (T := "str") rfl PySem.F.slot_str_getitem.lookup (PySem.P.getItem_str (c := c) (by simp; lia) ?_ (.mk (S.toks _) vr_str (Grow.refl _) h)) (hs _ _)
 have : i.toNat < x.cps.size := (Array.getElem?_eq_some_iff.mp hc).1
 unfold seqIndex?
 simp only [show ¬ i < 0 by lia, if_false]
 have hl : x.length = x.cps.size := rfl
 rw [if_pos (by rw [hl]; simp; lia)]
 simpa using hc
theorem cmp_eqS {x y : Str} (h : Q (.bool (x == y)) H) : WCmp X n .Eq (.str x) (.str y) H Q := fun A P s va vb r S ⟨t, e⟩ ⟨u, e'⟩ => by
 subst e e'
 exact SeqAt.RcAt.str_str x t y u _ _ _ _ (.mk S vr_bool (Grow.refl _) h)
end
end
section
theorem pure_any {M : Model} {A : Around} {Q : Bool -> Shared -> Prop} {E : Value -> Shared -> Prop} {s : Shared} {b : Bool} (h : ∀ b, Q b s) : wpAny M A (pure b) Q E s := wpAny_pure (h b)
inductive En0 (h : Heap) (l : Addr) (items : Array Value) (h2 : Heap) (e : Addr) : Prop
 | i (it : Addr) (a b : Obj) (eh : h2 = (h.push a).push b) (hi : IsEnum h2 e it 0 .none) (ht : h2.IsTupleIter it l 0) (hl : h2.IsTuple l items) (hz : it = h.objs.size)
theorem meets_enumT (l : Addr) (items : Array Value) (n : Nat) :
  Meets (Builtin.«enumerate.__new__» ⟨[.type "enumerate", .ref l], []⟩) (fun O R s => s.heap.get? l = some { cls := .type "tuple", dict := none, data := .seq items n, slots := #[] } /\
   ∀ h2 e, En0 s.heap l items h2 e -> R (.ok (.ret (.ref e))) { s with heap := h2 }) :=
 .of_wp fun prog w A R s h => by
  obtain ⟨hp, g, d, tk, os⟩ := s; obtain ⟨hl, h⟩ := h
  have hsub := sub_enumerate
  have h := h _ (hp.objs.size + 1) ⟨hp.objs.size, { cls := .type "tuple_iterator", data := .fields #[.ref l, .int 0 0] }, { cls := .type "enumerate", data := .fields #[.none, .bool false, .ref hp.objs.size, rawInt 0, .none, .none] }, rfl, by
   have := Heap.get?_push_size (hp.push { cls := .type "tuple_iterator", data := .fields #[.ref l, .int 0 0] }) (o := { cls := .type "enumerate", data := .fields #[.none, .bool false, .ref hp.objs.size, rawInt 0, .none, .none] }) rfl
   rw [Heap.size_push] at this
   exact this, ⟨_, Heap.get?_push_of_some _ (Heap.get?_push_size _ rfl), rfl, rfl⟩, ⟨_, Heap.get?_push_of_some _ (Heap.get?_push_of_some _ hl), rfl, n, rfl⟩, rfl⟩
  rw [<- Heap.size_push hp { cls := .type "tuple_iterator", data := .fields #[.ref l, .int 0 0] }] at h
  have hL : Heap.IsTuple (Shared.heap ⟨hp, g, d, tk, os⟩) l items := ⟨_, hl, rfl, n, rfl⟩
  wp_walk using AutoSeq1.wpAny_loadPart' hl
  refine wpAny_stack_any fun st => pure_any fun b => ?_
  induction b
  ·wp_walk using AutoSeq1.wpAny_loadPart' hl, wpAny_pyIter_tuple hL
   exact ⟨_, rfl, h⟩
  ·wp_walk using AutoSeq1.wpAny_loadPart' hl, wpAny_pyIter_tuple hL
   exact ⟨_, rfl, h⟩
section
variable {prog : Program} {w : World} {A : Around} {E : Value -> Shared -> Prop} {s : Shared}
theorem nextOf_tuple_end {it l : Addr} {i : Nat} {items} {Q : Value -> Shared -> Prop} (hh : A.handled = none)
  (hit : s.heap.IsTupleIter it l i) (hl : s.heap.IsTuple l items) (hx : items[i]? = none)
  (hE : ∀ h' e, Heap.ExtBut it s.heap h' -> (∃ o, h'.get? e = some o /\ o.cls = .type "StopIteration") -> E (.ref e) { s with heap := h' }) :
  wpAny (model prog w) A (Builtin.SmallTypes.nextOf (.ref it)) Q E s := by
 refine cps fun G0 z0 => ?_
 obtain ⟨o, ho, hc, hd⟩ := id hit
 obtain ⟨ol, hol, _, nl, hdl⟩ := hl
 refine z0 ?_
 clear z0
 unfold Builtin.SmallTypes.nextOf
 refine wpAny_bind (wpAny_callSpecial?_slot (name := Str.ofString "__next__") hit.typeIs PySem.F.slot_tuple_iterator_next
  (wpAny_call_entry PySem.F.slot_tuple_iterator_next hit.typeIs PySem.F.entry_tuple_iterator_next ?_ (PySem.F.args_tuple_iterator_next_1 _)))
 show wpAny _ _ (field (.ref it) 0 >>= _) _ _ s
 refine wpAny_bind (wpAny_field ho hd (x := .ref l) rfl ?_)
 show wpAny _ _ (if (Value.ref l == Value.none) = true then _ else _) _ _ s
 rw [if_neg (show ¬ ((Value.ref l == Value.none) = true) from Bool.false_ne_true)]
 show wpAny _ _ (field (.ref it) 1 >>= _) _ _ s
 refine wpAny_bind (wpAny_field ho hd (x := .int i 0) rfl ?_)
 show wpAny _ _ (seqItems? (.ref l) >>= _) _ _ s
 refine wpAny_bind (wpAny_seqItems hol hdl ?_)
 simp only [Int.toNat_natCast, hx]
 refine wpAny_bind (wpAny_rule (wpAny_bind (wpAny_setField ho hd (by simp) ?_)))
 show wpAny _ _ (newExc (.type "StopIteration") [] >>= _) _ _ _
 refine wpAny_bind ?_
 simp only [newExc, newTuple]
 refine wpAny_bind (wpAny_newObj_type ?_ (by size_fits))
 refine wpAny_bind (m := firstArgMember _ _) (wpAny_of_eq (a := Value.none) (by first | rfl | (simp only [firstArgMember]; rfl)) ?_)
 refine wpAny_newObj_type ?_ (by size_fits)
 show wpAny _ _ (handled >>= _) _ _ _
 refine wpAny_bind (wpAny_handled ?_)
 first | rw [show A.in1.handled = none from hh] | rw [hh]
 refine wpAny_bind (wpAny_pure (wpAny_throw ?_))
 exact hE _ _ (((Heap.SameBut.update ..).extBut.push _).push _) ⟨_, Heap.get?_push_size _ rfl, rfl⟩
end
section
variable {X : Wd} {n : Nat} {fi : FI} {env : Env} {F : Frame} {H : Hp}
theorem wx_forEnum0 {x : Str} {xp cp : Pos} {arg target : Expr} {body : List Stmt} {pos : Pos} {Q : Fl -> Frame -> Hp -> Prop} (g : GetG fi.G x (.type "enumerate")) (h : WE X n fi env F arg H (fun v H₁ => v = .tup [] /\ Q .next F H₁))
  (hs : ∀ env y, foldedSetIterable (.Call (.Name x xp) [arg] [] cp) env y = pure y)
  (he : ∀ env, starEach [arg] env = (false, eval arg env) :: []) (hp : ∀ env pos, (backTo pos (starEach ([] : List Expr) env)).any (·.1) = false) :
  WX X n fi env F (.For target (.Call (.Name x xp) [arg] [] cp) body [] pos) H Q := fun E A P s r S f => by
 refine wpAny_For ?_ (hs env)
 show wpAny _ _ (do callWith cp (<- eval (.Name x xp) env) [] (backTo cp (starEach [arg] env)) (backToKw cp (keywordEach [] env))) _ _ _
 refine wpAny_bind (glob_tree g E S ?_)
 refine PySem.Pv.callWith_type1 (e := arg) (rest := []) ?_ (he env) (hp env cp)
 simp only [he]
 refine spliced_cons (wpAny_mono (h E A P s r S f) (fun u s₁ p0 => p0.casesOn fun v H₁ ru S₁ g₁ q0 => ?_) fun O O x => x.elim)
 obtain ⟨ev, q⟩ := q0
 subst ev
 refine spliced_nil ?_
 refine cps fun G0 z0 => ?_
 obtain ⟨t, xs, m, rfl, ho, rs⟩ := ru
 refine z0 ?_
 clear z0
 rw [show xs = [] from rs] at ho
 refine callType_new PySem.F.called_enumerate (by decide) (PySem.F.typeCall_enumerate_1 _) (PySem.F.newCall_enumerate_1 _) (fun obj => PySem.F.args_object_init_2 obj _) PySem.F.entry_enumerate_new
  (meets_enumT t #[] m) ⟨ho, fun h2 en q0 => q0.rec fun it oa ob eh hIe ht hl hz => ?_⟩
 have g : Grow s₁.heap h2 := eh ▸ (Grow.push _ _).trans (Grow.push _ _)
 have S₂ : St X P H₁ { s₁ with heap := h2 } := eh ▸ (S₁.push oa).push ob
 have pn := none_of_size S₁ (hz ▸ size_none s₁.heap)
 clear eh hz
 refine ⟨⟨_, hIe, rfl⟩, wpAny_pyIter_enum hIe ?_⟩
 refine codeAny_forLoop_any (fun k t' => t' = { s₁ with heap := h2 }) (fun k t' e => ?_) 0 rfl
 simp only [e]
 have hT : Shared.TypeIs { s₁ with heap := h2 } (.ref en) "enumerate" := ⟨_, hIe, rfl⟩
 dsimp only [pyNext]
 refine wpAny_bind (wpAny_attempt (wpAny_callSpecial?_slot (name := Str.ofString "__next__") hT PySem.F.slot_enumerate_next
  (wpAny_call_entry PySem.F.slot_enumerate_next hT PySem.F.entry_enumerate_next ?_ (PySem.F.args_enumerate_next_1 _))))
 show wpAny _ _ (field (.ref en) 2 >>= _) _ _ _
 refine wpAny_bind (wpAny_field hIe rfl (x := .ref it) rfl ?_)
 refine wpAny_bind (nextOf_tuple_end (i := 0) (items := #[]) (l := t) r.hd ht hl rfl fun h' x he' hx' => ?_)
 refine wpAny_bind (hx'.elim fun o hx' => wpAny_isInstance (T := "StopIteration") (b := true) ⟨o, hx'⟩ isSubtype_stop ?_)
 refine wpAny_pure ?_
 have q3 := S₂.extBut (tk := s₁.toks) pn.1 pn.2 he' (fun o' e xs m k => ht.elim fun o2 z => by have z2 := z.2.2; rw [<- Option.some.inj (z.1.symm.trans e)] at k; rw [k] at z2; cases z2)
 exact wpAny_execs_nil ⟨.next, F, H₁, P, rfl, .refl _ _ _, q3.1, f.grow ((g₁.trans g).trans q3.2), (g₁.trans g).trans q3.2, q⟩
theorem wx_try {body : List Stmt} {h₀ : ExceptHandler} {hs : List ExceptHandler} {pos : Pos} {Q : Fl -> Frame -> Hp -> Prop} (h : WS X n fi env F body H Q) : WX X n fi env F (.Try body (h₀ :: hs) [] [] pos) H Q := fun E A P s r S f =>
 wpAny_Try_except (wpAny_mono (h E A P s r S f) (fun fl s₁ p0 => p0.casesOn fun f' F' H' P' rf p S₁ f₁ g₁ q => by
  induction f' with
  | next => rw [show fl = _ from rf]; exact wpAny_execs_nil ⟨.next, F', H', P', rfl, p, S₁, f₁, g₁, q⟩
  | brk => rw [show fl = _ from rf]; exact ⟨.brk, F', H', P', rfl, p, S₁, f₁, g₁, q⟩
  | cont => rw [show fl = _ from rf]; exact ⟨.cont, F', H', P', rfl, p, S₁, f₁, g₁, q⟩
  | ret V => obtain ⟨v, rfl, rv⟩ := rf; exact ⟨.ret V, F', H', P', ⟨v, rfl, rv⟩, p, S₁, f₁, g₁, q⟩) fun O O x => x.elim)
theorem wc_items {d : Addr} {kvs : List (Int × V)} {ep : Nat} {Q : V -> Hp -> Prop} (e : H d = some (.dict kvs ep)) (h : ∀ c, H c = none -> Q (.ref c) (H.set c (.items d))) : WC X n (.builtin "dict.items") [.ref d] H Q := fun A P s vals r S rv => by
 obtain ⟨x, rfl, ra⟩ := rv.one
 rw [show x = _ from ra]
 obtain ⟨es, ho, rs⟩ := (S.cell _ _ e).2
 exact call_meetsIn PySem.F.slot_dict_items ho.dictOf.typeIs PySem.F.entry_dict_items (PySem.F.args_dict_items_1 _) (meets_dict_items (knd X.w) d (S.notSys e)) ⟨⟨_, ho.dictOf⟩, PV.mk (S.alloc (c := .items d) (Heap.get?_push_size _ rfl)) vr_ref (Grow.push _ _) (h _ S.none_size.1)⟩
theorem we_items {o : Expr} {apos pos : Pos} {Q : V -> Hp -> Prop} (h : WE X n fi env F o H (fun ov H₁ => (∃ a vs ep, ov = .ref a /\ H₁ a = some (.dict vs ep)) /\ WEs X n fi env F [] H₁ (fun ws H₂ => WC X n (.builtin "dict.items") (ov :: ws) H₂ Q)))
  (he : ∀ env, eval (.Call (.Attribute o "items" apos) [] [] pos) env = (do
   let ov <- eval o env
   standAt apos.atName
   let (f, first) <- holding [ov] (getMethod ov "items" (do return (<- importBound o env).getD true))
   callWith pos f first (backTo pos (starEach [] env)) (backToKw pos (keywordEach [] env)))) : WE X n fi env F (.Call (.Attribute o "items" apos) [] [] pos) H Q :=
 we_meth PySem.F.plainAttrs_dict PySem.F.slot_dict_items PySem.F.type_dict_items (fun E A P s r S f => wpAny_mono (h E A P s r S f) (fun O O p0 => p0.casesOn fun V H' a b c q => ⟨V, H', a, b, c, q.1.elim fun l z => z.elim fun vs z => z.elim fun ep z => ⟨l, z.1, _, z.2, rfl⟩, q.2⟩) fun O O x => x) he (by intro _ _; rfl)
end
end
section
section
variable {X : Wd} {n : Nat} {fi : FI} {env : Env} {F : Frame} {H : Hp}
theorem VPs.nth {h : Heap} {vs} : ∀ {es}, VPs h vs es -> ∀ {i : Nat} {p}, vs[i]? = some p -> ∃ x, es[i]? = some (p.1, x) /\ VR h p.2 x := by
 induction vs with
 | nil => exact fun {es} O {i p} e => none_no (List.getElem?_nil.symm.trans e)
 | cons w vs ih => exact fun {es} q {i p} => q.elim fun y q => q.elim fun r q => q.1 ▸ i.rec (fun e => Option.some.inj e ▸ ⟨y, rfl, q.2.1⟩) fun i O e => ih q.2.2 (i := i) e
noncomputable abbrev itp (p : Int × V) : V := .tup [.int p.1, p.2]
theorem ItF.items {it d : Addr} {kvs : List (Int × V)} {ep : Nat} {ts : List Expr} {k : _} {tp : Pos} : ItF X it (fun H => H d = some (.dict kvs ep)) (fun vs h => ∃ i ok ov, IsItemIter h it d i kvs.length ep ok ov /\ (kvs.drop i).map itp = vs) (letOwnedTupleGo (.Tuple ts k tp) (.ref it)) where
 live := fun vs h q => q.elim fun i q => q.elim fun ok q => q.elim fun ov q => ⟨_, q.1, fun O O e => by cases congrArg Obj.data e⟩
 frame := fun vs h h' q g e => q.elim fun i q => q.elim fun ok q => q.elim fun ov q => ⟨i, ok, ov, Eq.trans e q.1, q.2⟩
 item := fun A P H s v vs N Q E E2 hh S hK q h => by
  refine cps fun G z => ?_
  obtain ⟨i, ok, ov, hit, hd⟩ := q
  cases hdr : kvs.drop i with
  | nil => rw [hdr] at hd; cases hd
  | cons p r =>
   rw [hdr] at hd
   cases hd
   have hv := drop_cons hdr
   obtain ⟨es, ho, rs⟩ := (S.cell _ _ hK).2
   obtain ⟨x, hx, rx⟩ := rs.nth hv.1
   have hl := rs.len
   refine z (wpAny_pyNext_items_item (knd := knd X.w) (by rw [hl]; exact hit) ho hx fun key h' hk hout htup hsz hkeep => ?_)
   refine wpAny_letOwnedTupleGo_items hout fun h'' hit'' hs'' => ?_
   have g : Grow s.heap h'' := fun a xs m e => have n : a ≠ it := fun q => (by rw [q, hit] at e; cases congrArg Obj.data (Option.some.inj e)); hs''.extBut a _ n (hkeep a _ n e)
   refine h _ h'' s.toks ⟨_, [key, x], 0, rfl, hs''.extBut _ _ (Ne.symm (Nat.ne_of_lt (Heap.lt_size hit))) htup, key, [x], rfl, ?_, x, [], rfl, rx.grow g, rfl⟩ ⟨i + 1, _, _, by rw [hl] at hit''; exact hit'', by rw [hv.2]⟩ fun b o hb e => hs''.extBut b o hb (hkeep b o hb e)
   obtain ⟨t, e⟩ := Value.isInt_shape (show Value.isInt p.1 key = true from hk)
   exact ⟨t, e⟩
 done := fun A P H s N M E hh S hK q h => by
  refine cps fun G z => ?_
  obtain ⟨i, ok, ov, hit, hd⟩ := q
  obtain ⟨es, ho, rs⟩ := (S.cell _ _ hK).2
  have hl := rs.len
  refine z (wpAny_pyNext_items_end (knd := knd X.w) hh (by rw [hl]; exact hit) ho ?_ fun h' hx => h h' s.toks hx)
  exact List.getElem?_eq_none (by rw [hl]; exact List.drop_eq_nil_iff.mp (List.map_eq_nil_iff.mp hd))
theorem wit_items {a d : Addr} {kvs : List (Int × V)} {ep : Nat} {ts : List Expr} {k : _} {tp : Pos} (ha : H a = some (.items d)) (hd : H d = some (.dict kvs ep)) : WItF X n (.ref a) H (kvs.map itp) (fun H => H d = some (.dict kvs ep)) (letOwnedTupleGo (.Tuple ts k tp)) := fun A P s u r S ru => by
 refine cps fun G z => ?_
 obtain ⟨es, ho, rs⟩ := (S.cell _ _ hd).2
 refine z ?_
 rw [show u = _ from ru]
 refine wpAny_pyIter_items (knd := knd X.w) ⟨_, (S.cell _ _ ha).2, rfl, rfl⟩ ho ⟨_, _, rfl, .items, ⟨0, .none, .none, ?_, rfl⟩, S.push _, Grow.push _ _, S.none_size.2, S.none_size.1⟩
 rw [<- rs.len]
 exact Heap.get?_push_size _ rfl
inductive DcR (X : Wd) (n : Nat) (fi : FI) (env : Env) (F : Frame) (y : Str) (fi' : FI) (x : Str) (C' : List (Str × Option V)) (kx vx : Expr) (Q : Fl -> Frame -> Hp -> Prop) (v : V) (H₁ : Hp) : Prop
 | i (vs : List V) (K : Hp -> Prop) (I : List V -> List (Int × V) -> Hp -> Prop) (w : WIt X n v H₁ vs K) (h : I vs [] H₁) (k : ∀ r d H', I r d H' -> K H') (d : ∀ d H' a ep, I [] d H' -> H' a = none -> WN X n fi env F y (.ref a) (H'.set a (.dict d ep)) (fun F2 H2 => Q .next F2 H2))
  (t : ∀ v r d H' cenv, I (v :: r) d H' -> WE X n fi' cenv ⟨[(x, some v)], C'⟩ kx H' (fun kv H2 => ∃ ki, kv = .int ki /\ d.length <= 10000000 /\ WE X n fi' cenv ⟨[(x, some v)], C'⟩ vx H2 (fun w H3 => I r (putI d ki w) H3)))
theorem wx_dcomp {kx vx iter : Expr} {x y : Str} {px py : Pos} {sc : Scope} {dpos pos : Pos} {Q : Fl -> Frame -> Hp -> Prop} {G : List (Str × Value)} {C' : List (Str × Option V)}
  (hsw : swapsWith (.DictComp kx vx [⟨.Name x px, iter, [], 0⟩] sc dpos) (some (.Name y py)) pos.line env = pure true)
  (hk : ccChk sc x G (C'.map (·.1)) = true) (hG : ∀ p ∈ G, GlobV X p.1 p.2) (hC : ∀ p ∈ C', p ∈ F.C)
  (h : WE X n fi env F iter H (DcR X n fi env F y ⟨G, [x], [], C'.map (·.1)⟩ x C' kx vx Q)) (hs : ∀ x, foldedSetIterable iter env x = pure x) : WX X n fi env F (.Assign [.Name y py] (.DictComp kx vx [⟨.Name x px, iter, [], 0⟩] sc dpos) pos) H Q := fun E A P s r S f => by
 have ck := ccK hk
 refine cps fun G z => ?_
 obtain ⟨cl, hclos, hcl⟩ := cc_clos ck hC f
 refine z ?_
 clear z
 rw [exec_Assign_Name_used _ _ _ _ hsw]
 refine wpAny_bind (wpAny_standAt (wpAny_bind ?_))
 show wpAny _ A (do let _ <- comprehension (.DictComp kx vx [⟨.Name x px, iter, [], 0⟩] sc dpos) sc env _ newDict false (eval iter env) (some (assign (.Name y py) env))) _ _ s
 refine wpAny_bind (wpAny_mono (wpAny_comprehension_free (use := some (assign (.Name y py) env)) (Q := fun O s' => PS X fi env P s.heap Q .next s') rfl hs hclos ck.k ck.l
  (wpAny_mono (h E A P s r S f) (fun u s₁ p0 => p0.rec fun v H₁ ru S₁ g₁ q0 => q0.rec fun vs K I hW hI hK hD hT => wpAny_mono (hW A P s₁ u r S₁ ru) (fun it s₂ q0 => q0.rec fun a D eit T d0 S₂ g₂ pa ha => ?_) fun O O x => x.elim) fun O O x => x)) (fun O s' hq => wpAny_pure (wpAny_pure hq)) fun O O e => e)
 subst eit
 refine cps fun G z => ?_
 obtain ⟨oi, hoi, _⟩ := T.live _ _ d0
 obtain ⟨ep0, hd0⟩ := (Heap.DictOf.new (knd := knd X.w) s₂.heap).dictAt
 refine z (wpAny_newObj_type (cc_start (oa := { cls := .type "dict", data := .dict #[] }) (d := .dict [] ep0) ck hG E hC S₂ (f.grow (g₁.trans g₂)) hcl rfl hoi pa ha (g₁.trans g₂) (fun h k => CR.dict (hd0.at' fun o e => by rw [Heap.get?_push_size _ rfl] at e; cases e; exact k) rfl) fun C s₄ P' x0 cc old => ?_))
 have d1 : D vs s₄.heap := T.frame _ _ _ d0 (fun b xs m e => old _ _ e) ((old _ _ hoi).trans hoi.symm)
 clear z hoi old hd0
 have loop : codeAny (MM X) A (.compLoop (.DictComp kx vx [⟨.Name x px, iter, [], 0⟩] sc dpos) 0 (.ref a) (.ref s₂.heap.objs.size) (compEnvC sc cl C env)) (compPost (MM X) A noE (some (assign (.Name y py) env)) (fun O s' => PS X fi env P s.heap Q .next s') (.ref s₂.heap.objs.size) C) s₄ := by
  refine codeAny_compLoop_testsD (fun k t => ∃ rem d ep H' P', rem.length = k /\ CcAt X _ C' (compEnvC sc cl C env) x P s.heap a s₂.heap.objs.size (.dict d ep) H' P' t /\ D rem t.heap /\ I rem d H') (fun k t hi => ?_) vs.length ⟨vs, [], ep0, H₁, P', rfl, cc, d1, hI⟩ (fun v => rfl)
  refine cps fun G z => ?_
  obtain ⟨rem, d, ep, H', P', rfl, cc, dd, hi⟩ := hi
  induction rem with
  | nil =>
   refine z (cc_done x0 T r cc (hK _ _ _ hi) dd S₂ fun t' oc mc nA S5 g5 e nn nC => ?_)
   have o : FoS X fi env P s.heap C F (H'.set s₂.heap.objs.size (.dict d ep)) P t' := ⟨.refl _ _ _, x0.pC, nC, S5, f.grow g5, g5⟩
   refine wpAny_mono (wa_name (hD d H' _ ep hi nA) E A _ _ (.ref s₂.heap.objs.size) r (S5.pinIn (o := oc) x0.pC nC e) (o.f.pins (pinAt_le (o := oc) x0.pC)) vr_ref) (fun O s₇ p0 => p0.rec fun F7 H7 P7 p7 S7 f7 g7 q7 => ?_) fun O O e => e.elim
   have b := o.out S7 f7 p7 g7
   exact ⟨mc, nn.ns b.2, fun h'' hs'' => let q := cc_gone b.1.S unpin_self b.1.nh b.2 nn hs'' (tk := s₇.toks); ⟨.next, F7, H7, _, rfl, b.1.ps, q.1, b.1.f.grow q.2, b.1.g.trans q.2, q7⟩⟩
  | cons v rem =>
   refine z (cc_turn x0 T r cc (hK _ _ _ hi) dd fun P5 s₅ m S5 => ?_)
   refine wpAny_tests_nil ?_
   rw [if_pos rfl]
   refine wpAny_mono (hT v rem d H' _ hi x0.E A P5 s₅ r S5 m.fr) (fun kv s₆ p0 => p0.rec fun kV H6 rk S6 g6 q0 => q0.elim fun ki q0 => ?_) fun O O e => e.elim
   refine wpAny_mono (q0.2.2 x0.E A P5 s₆ r S6 (m.fr.grow g6)) (fun vv s₇ p0 => p0.rec fun w H7 rw7 S7 g7 q7 => ?_) fun O O e => e.elim
   refine cps fun G z => ?_
   have k := m.now S7 (g6.trans g7)
   obtain ⟨nA, ⟨es, hda, rx⟩, oa, _, eoa⟩ := k
   obtain ⟨rfl, hlen, _⟩ := q0
   obtain ⟨tk6, rfl⟩ := rk
   refine z (wpAny_dictSet_pairs (knd := knd X.w) (k := ki) (by show Value.isInt ki (.int ki tk6) = true; exact decide_eq_true rfl) hda.dictOf (fun h9 hd9 hs9 => ?_) (by rw [rx.len]; exact le_line hlen))
   obtain ⟨ep9, hd9⟩ := hd9.dictAt
   have q9 := (S7.unpin x0.bA).extBut (a := s₂.heap.objs.size) (tk := s₇.toks + 1) unpin_self nA hs9.extBut fun o' e => (CR.some (show CR X.w s₇.heap (.dict d ep) s₂.heap.objs.size from ⟨es, hda, rx⟩)).elim fun o q => by rw [q.1] at e; cases e; exact q.2
   have b := cc_back x0 m nA q9.1 ((g6.trans g7).trans q9.2) (CR.dict hd9 ((rx.grow q9.2).put (rw7.grow q9.2)))
   exact b.1.elim fun P'' c => ⟨rem.length, Nat.lt_succ_self _, rem, putI d ki w, ep9, H7, P'', rfl, c, b.2, q7⟩
 exact codeAny_compStart_dict loop (T.self A _ vs _ _ d1 loop)
end
end
section
section
variable {X : Wd} {n : Nat} {fi : FI} {env : Env} {F : Frame} {H : Hp}
theorem WE.mono {e : Expr} {Q Q' : V -> Hp -> Prop} (h : WE X n fi env F e H Q') (k : ∀ v H', Q' v H' -> Q v H') : WE X n fi env F e H Q := fun E A P s r S f =>
 wpAny_mono (h E A P s r S f) (fun O O p0 => p0.casesOn fun V H' a b c q => ⟨V, H', a, b, c, k _ _ q⟩) fun O O x => x
theorem WS.mono {ss : List Stmt} {Q Q' : Fl -> Frame -> Hp -> Prop} (h : WS X n fi env F ss H Q') (k : ∀ fl F' H', Q' fl F' H' -> Q fl F' H') : WS X n fi env F ss H Q := fun E A P s r S f =>
 wpAny_mono (h E A P s r S f) (fun O O p0 => p0.casesOn fun f' F' H' P' a b c d e q => ⟨f', F', H', P', a, b, c, d, e, k _ _ _ q⟩) fun O O x => x
theorem WC.up {f : Value} {vs : List V} {Q : V -> Hp -> Prop} {m : Nat} (h : WC X m f vs H Q) (k : m <= n) : WC X n f vs H Q := fun A P s vals r S rv => h A P s vals ⟨by have := r.depth; lia, by have := r.units; lia, r.hd⟩ S rv
end
end
section
theorem size_up {a b : Int} (h : a <= b) : Builtin.Range.rangeSize a b 1 = ((b - a).toNat : Nat) := by
 unfold Builtin.Range.rangeSize
 simp
 lia
theorem small_up {a b : Int} (h : a <= b) (h0 : -1000000000 <= a) (h1 : b <= 1000000000) : Builtin.Range.small a b 1 = true := by
 unfold Builtin.Range.small
 rw [size_up h]
 simp [Builtin.Range.rangeFitsLong]
 omega
theorem size_down {k : Nat} : Builtin.Range.rangeSize ((k : Int) - 1) (-1) (-1) = (k : Nat) := by
 unfold Builtin.Range.rangeSize
 simp
 lia
theorem small_down {k : Nat} (h : k <= 1000000) : Builtin.Range.small ((k : Int) - 1) (-1) (-1) = true := by
 unfold Builtin.Range.small
 rw [size_down]
 simp [Builtin.Range.rangeFitsLong]
 lia
section
variable {X : Wd} {n : Nat} {fi : FI} {env : Env} {F : Frame} {H : Hp}
end
noncomputable def beV (bs : List Int) : Int := bs.foldl (fun a b => 256 * a + b) 0
theorem beV_snoc (bs : List Int) (b : Int) : beV (bs ++ [b]) = 256 * beV bs + b := by simp [beV]
theorem octs_at {B : Array UInt8} {i : Nat} (h : i < B.size) : (octs B)[i]? = some ((B.getD i 0).toNat : Int) := by
 simp [octs, Array.getD, h]
theorem octs_len (B : Array UInt8) : (octs B).length = B.size := by simp [octs]
theorem take_more {α} {l : List α} {p k j : Nat} {x : α} (h : j < k) (e : l[p + j]? = some x) : ((l.drop p).take k).take (j + 1) = ((l.drop p).take k).take j ++ [x] := by
 rw [List.take_take, List.take_take, Nat.min_eq_left (by lia), Nat.min_eq_left (by lia), List.take_add_one, List.getElem?_drop, e]; rfl
theorem bits256 : Builtin.Int.intBits 256 = 9 := by decide
theorem pow_room {b : Int} (h : b <= 1000) : ((Builtin.Int.intBits 256 : Nat) : Int) * b <= 2 ^ 27 := by rw [bits256]; lia
section
variable {X : Wd} {n : Nat} {H : Hp} {Q : V -> Hp -> Prop}
end
theorem ndt {p : Prop} [Decidable p] (h : (!decide p) = true) : ¬ p := by simpa using h
theorem ndf {p : Prop} [Decidable p] (h : (!decide p) = false) : p := by simpa using h
end
section
set_option genCtorIdx false in
inductive W where
 | none | bool (b : Bool) | int (i : Int) | str (s : Str) | bytes (b : Array UInt8)
 | tup (vs : List W) | ref (a : Addr) | il (l : List Int) | lst (vs : List W) | rng (a b c : Int)
noncomputable abbrev Fz := Addr -> Option Cell
noncomputable def Fle (F F' : Fz) : Prop := ∀ a c, F a = some c -> F' a = some c
theorem Fle.rfl {F : Fz} : Fle F F := fun O O h => h
theorem Fle.trans {F G H : Fz} (a : Fle F G) (b : Fle G H) : Fle F H := fun x c h => b x c (a x c h)
mutual
noncomputable def RV (F : Fz) : W -> V -> Prop
 | .none, v => v = .none
 | .bool b, v => v = .bool b
 | .int i, v => v = .int i
 | .str s, v => v = .str s
 | .bytes b, v => v = .bytes b
 | .tup ws, v => ∃ vs, v = .tup vs /\ RVs F ws vs
 | .ref a, v => v = .ref a
 | .il l, v => ∃ a, v = .ref a /\ F a = some (.list (l.map .int))
 | .lst ws, v => ∃ a vs, v = .ref a /\ F a = some (.list vs) /\ RVs F ws vs
 | .rng x y z, v => ∃ a, v = .ref a /\ F a = some (.rng x y z)
noncomputable def RVs (F : Fz) : List W -> List V -> Prop
 | [], vs => vs = []
 | w :: ws, vs => ∃ v r, vs = v :: r /\ RV F w v /\ RVs F ws r
end
theorem RV.up {F F' : Fz} (g : Fle F F') {w : W} : ∀ {v}, RV F w v -> RV F' w v :=
 w.rec (motive_1 := fun w => ∀ {v}, RV F w v -> RV F' w v) (motive_2 := fun ws => ∀ {vs}, RVs F ws vs -> RVs F' ws vs) id (fun O => id) (fun O => id) (fun O => id) (fun O => id) (fun O ih {_} q => q.elim fun vs q => ⟨vs, q.1, ih q.2⟩)
  (fun O => id) (fun O {_} q => q.elim fun a q => ⟨a, q.1, g _ _ q.2⟩) (fun O ih {_} q => q.elim fun a q => q.elim fun vs q => ⟨a, vs, q.1, g _ _ q.2.1, ih q.2.2⟩) (fun O O O {_} q => q.elim fun a q => ⟨a, q.1, g _ _ q.2⟩) id
  (fun O O hv ih {_} q => q.elim fun x q => q.elim fun r q => ⟨x, r, q.1, hv q.2.1, ih q.2.2⟩)
theorem RVs.up {F F' : Fz} (g : Fle F F') {ws : List W} : ∀ {vs}, RVs F ws vs -> RVs F' ws vs := by
 induction ws with
 | nil => exact id
 | cons w ws ih => exact fun q => q.elim fun x q => q.elim fun r q => ⟨x, r, q.1, q.2.1.up g, ih q.2.2⟩
theorem RVs.len {F : Fz} {ws : List W} : ∀ {vs}, RVs F ws vs -> vs.length = ws.length := by
 induction ws with
 | nil => exact fun q => (show _ = _ from q) ▸ rfl
 | cons w ws ih => exact fun q => q.elim fun v q => q.elim fun r q => q.1 ▸ congrArg (· + 1) (ih q.2.2)
theorem RVs.app {F : Fz} {ws : List W} : ∀ {vs ws' vs'}, RVs F ws vs -> RVs F ws' vs' -> RVs F (ws ++ ws') (vs ++ vs') := by
 induction ws with
 | nil => exact fun q z => (show _ = _ from q) ▸ z
 | cons w ws ih => exact fun q z => q.elim fun v q => q.elim fun r q => q.1 ▸ ⟨v, _, rfl, q.2.1, ih q.2.2 z⟩
theorem RVs.ints {F : Fz} : ∀ l : List Int, RVs F (l.map .int) (l.map .int)
 | [] => rfl
 | i :: l => ⟨_, _, rfl, rfl, RVs.ints l⟩
theorem RVs.at {F : Fz} {ws : List W} : ∀ {vs}, RVs F ws vs -> ∀ {i : Nat} {w}, ws[i]? = some w -> ∃ v, vs[i]? = some v /\ RV F w v := by
 induction ws with
 | nil => exact fun {vs} O {i w} e => none_no (List.getElem?_nil.symm.trans e)
 | cons w ws ih => exact fun {vs} q {i v} => q.elim fun y q => q.elim fun r q => q.1 ▸ i.rec (fun e => Option.some.inj e ▸ ⟨y, rfl, q.2.1⟩) fun i O e => ih q.2.2 (i := i) e
theorem RVs.set {F : Fz} {ws : List W} : ∀ {vs} {i : Nat} {w v}, RVs F ws vs -> RV F w v -> RVs F (ws.set i w) (vs.set i v) := by
 induction ws with
 | nil => exact fun q O => (show _ = _ from q) ▸ rfl
 | cons w ws ih => exact fun {vs i w v} q p => q.elim fun y q => q.elim fun r q => q.1 ▸ i.rec ⟨v, r, rfl, p, q.2.2⟩ fun i O => ⟨y, _, rfl, q.2.1, ih q.2.2 p⟩
theorem RVs.rep {F : Fz} {w v} (h : RV F w v) : ∀ n, RVs F (List.replicate n w) (List.replicate n v)
 | 0 => rfl
 | n + 1 => ⟨v, _, rfl, h, RVs.rep h n⟩
theorem RVs.drop {F : Fz} {ws : List W} : ∀ {vs} (n : Nat), RVs F ws vs -> RVs F (ws.drop n) (vs.drop n) := by
 induction ws with
 | nil => exact fun n q => (show _ = _ from q) ▸ n.rec rfl fun O O => rfl
 | cons w ws ih => exact fun {vs} n q => n.rec q fun n O => q.elim fun y q => q.elim fun r q => q.1 ▸ ih n q.2.2
theorem RVs.take {F : Fz} {ws : List W} : ∀ {vs} (n : Nat), RVs F ws vs -> RVs F (ws.take n) (vs.take n) := by
 induction ws with
 | nil => exact fun n q => (show _ = _ from q) ▸ n.rec rfl fun O O => rfl
 | cons w ws ih => exact fun {vs} n q => n.rec rfl fun n O => q.elim fun y q => q.elim fun r q => q.1 ▸ ⟨y, _, rfl, q.2.1, ih n q.2.2⟩
noncomputable def RK {α β : Type} (F : Fz) (f : α -> β) : List (α × W) -> List (β × V) -> Prop
 | [], l => l = []
 | p :: r, l => ∃ v r', l = (f p.1, v) :: r' /\ RV F p.2 v /\ RK F f r r'
theorem RK.up {α β : Type} {F F' : Fz} {f : α -> β} (g : Fle F F') {l : List (α × W)} : ∀ {l'}, RK F f l l' -> RK F' f l l' := by
 induction l with
 | nil => exact id
 | cons p l ih => exact fun q => q.elim fun v q => q.elim fun r q => ⟨v, r, q.1, q.2.1.up g, ih q.2.2⟩
theorem RK.len {α β : Type} {F : Fz} {f : α -> β} {l : List (α × W)} : ∀ {l'}, RK F f l l' -> l'.length = l.length := by
 induction l with
 | nil => exact fun q => (show _ = _ from q) ▸ rfl
 | cons p l ih => exact fun q => q.elim fun v q => q.elim fun r q => q.1 ▸ congrArg (· + 1) (ih q.2.2)
theorem RK.keys {α β : Type} {F : Fz} {f : α -> β} {l : List (α × W)} : ∀ {l'}, RK F f l l' -> l'.map (·.1) = l.map fun p => f p.1 := by
 induction l with
 | nil => exact fun q => (show _ = _ from q) ▸ rfl
 | cons p l ih => exact fun q => q.elim fun v q => q.elim fun r q => q.1 ▸ congrArg (_ :: ·) (ih q.2.2)
set_option genCtorIdx false in
inductive C2 where
 | list (vs : List W) | il (l : List Int) | frz (vs : List W)
 | dict (kvs : List (Int × W)) | fdict (kvs : List (Int × W))
 | obj (C d : Addr) (kvs : List (Nat × W))
set_option genCtorIdx false in
inductive Hl where
 | nil
 | c (a : Addr) (x : C2) (r : Hl)
noncomputable def anm : List Str := ["number", "name", "size", "design", "check", "params", "chars", "program", "kerns", "boundary", "edge_start", "hyphen_char", "skew_char", "octets", "at", "h", "v", "w", "x", "y", "z", "font", "stack", "deepest", "rows", "units", "comment", "pages", "fonts", "tallest", "widest"]
noncomputable def nmA (i : Nat) : Str := anm.getD i "?"
noncomputable def C2.ads (a : Addr) : C2 -> List Addr
 | .obj _ d _ => [a, d]
 | .frz _ => []
 | .fdict _ => []
 | _ => [a]
noncomputable def Hl.adr : Hl -> List Addr
 | .nil => []
 | .c a x r => x.ads a ++ r.adr
noncomputable def Hl.at : Hl -> Nat -> Option (Addr × C2)
 | .nil, _ => none
 | .c a x _, 0 => some (a, x)
 | .c _ _ r, n + 1 => r.at n
noncomputable def Hl.set : Hl -> Nat -> C2 -> Hl
 | .nil, _, _ => .nil
 | .c a _ r, 0, y => .c a y r
 | .c a x r, n + 1, y => .c a x (r.set n y)
noncomputable def isC (C : Addr) : Bool := Nat.beq C 246 || Nat.beq C 309 || Nat.beq C 351 || Nat.beq C 372
noncomputable def RC (F : Fz) (H : Hp) (a : Addr) : C2 -> Prop
 | .list ws => ∃ vs, H a = some (.list vs) /\ RVs F ws vs
 | .il l => H a = some (.list (l.map .int))
 | .frz ws => ∃ vs, F a = some (.list vs) /\ RVs F ws vs
 | .dict kvs => ∃ kv ep, H a = some (.dict kv ep) /\ RK F id kvs kv
 | .fdict kvs => ∃ kv ep, F a = some (.dict kv ep) /\ RK F id kvs kv
 | .obj C d kvs => H a = some (.inst C d) /\ ∃ kv, H d = some (.attrs kv) /\ RK F nmA kvs kv /\ isC C = true
noncomputable def Hl.All (p : Addr -> C2 -> Prop) : Hl -> Prop
 | .nil => True
 | .c a x r => p a x /\ r.All p
structure RH (F : Fz) (l : Hl) (H : Hp) : Prop where
 nd : l.adr.Nodup
 ce : l.All (RC F H)
 fz : ∀ a c, F a = some c -> H a = some c /\ a ∉ l.adr
theorem Hl.All.mono {p q : Addr -> C2 -> Prop} {l : Hl} : l.All p -> (∀ a x, (∀ b ∈ x.ads a, b ∈ l.adr) -> p a x -> q a x) -> l.All q := by
 induction l with
 | nil => exact fun h O => h
 | c a x r ih => exact fun h k => ⟨k a x (fun b => List.mem_append_left _) h.1, ih h.2 fun a y hb => k a y fun b h => List.mem_append_right _ (hb b h)⟩
theorem Hl.All.at {p : Addr -> C2 -> Prop} {l : Hl} : ∀ {n a x}, l.All p -> l.at n = Option.some (a, x) -> p a x := by
 induction l with
 | nil => exact fun O e => none_no e
 | c b z r ih => exact fun {n a x} h => n.rec (fun e => (Prod.mk.inj (Option.some.inj e)).1 ▸ (Prod.mk.inj (Option.some.inj e)).2 ▸ h.1) fun n O e => ih h.2 e
theorem Hl.at_adr {l : Hl} : ∀ {n a x}, l.at n = Option.some (a, x) -> ∀ b ∈ x.ads a, b ∈ l.adr := by
 induction l with
 | nil => exact fun e => none_no e
 | c d z r ih => exact fun {n a x} => n.rec (fun e b hb => List.mem_append_left _ ((Prod.mk.inj (Option.some.inj e)).1 ▸ (Prod.mk.inj (Option.some.inj e)).2 ▸ hb)) fun n O e b hb => List.mem_append_right _ (ih e b hb)
theorem RC.up {F F' : Fz} {H : Hp} {a : Addr} (g : Fle F F') {x} : RC F H a x -> RC F' H a x := by
 induction x with
 | list => exact fun q => q.elim fun vs q => ⟨vs, q.1, q.2.up g⟩
 | il => exact id
 | frz => exact fun q => q.elim fun vs q => ⟨vs, g _ _ q.1, q.2.up g⟩
 | dict => exact fun q => q.elim fun vs q => q.elim fun e q => ⟨vs, e, q.1, q.2.up g⟩
 | fdict => exact fun q => q.elim fun vs q => q.elim fun e q => ⟨vs, e, g _ _ q.1, q.2.up g⟩
 | obj => exact fun q => ⟨q.1, q.2.elim fun kv q => ⟨kv, q.1, q.2.1.up g, q.2.2⟩⟩
theorem RC.heap {F : Fz} {H H' : Hp} {a : Addr} {x} : RC F H a x -> (∀ b ∈ C2.ads a x, H' b = H b) -> RC F H' a x := by
 induction x with
 | list => exact fun q g => q.elim fun vs q => ⟨vs, (g _ (.head _)).trans q.1, q.2⟩
 | il => exact fun q g => (g _ (.head _)).trans q
 | frz => exact fun q O => q
 | dict => exact fun q g => q.elim fun vs q => q.elim fun e q => ⟨vs, e, (g _ (.head _)).trans q.1, q.2⟩
 | fdict => exact fun q O => q
 | obj => exact fun q g => ⟨(g _ (.head _)).trans q.1, q.2.elim fun kv q => ⟨kv, (g _ (.tail _ (.head _))).trans q.1, q.2⟩⟩
theorem hne0 {H : Hp} {a : Addr} {c : Cell} (e : H a = some c) : ∀ b ∈ [a], H b ≠ none := fun b h z => nomatch e.symm.trans ((congrArg H (List.mem_singleton.mp h)).symm.trans z)
theorem RC.ne0 {F : Fz} {H : Hp} {a : Addr} {x} : RC F H a x -> ∀ b ∈ C2.ads a x, H b ≠ none := by
 induction x with
 | list => exact fun q => q.elim fun O q => hne0 q.1
 | il => exact fun q => hne0 q
 | frz => exact fun O O h => nil_no h
 | dict => exact fun q => q.elim fun O q => q.elim fun O q => hne0 q.1
 | fdict => exact fun O O h => nil_no h
 | obj => exact fun q b h => q.2.elim fun O q2 => (List.mem_cons.mp h).elim (fun e => e ▸ hne0 q.1 _ (.head _)) (hne0 q2.1 b)
theorem Hl.All.ne0 {F : Fz} {H : Hp} {l : Hl} : l.All (RC F H) -> ∀ b ∈ l.adr, H b ≠ none := by
 induction l with
 | nil => exact fun O O h => nil_no h
 | c a x r ih => exact fun h b hb => (List.mem_append.mp hb).elim (h.1.ne0 b) (ih h.2 b)
section
variable {F : Fz} {l : Hl} {H : Hp}
theorem RH.get (h : RH F l H) {n a x} (e : l.at n = .some (a, x)) : RC F H a x := h.ce.at e
theorem Fz.ext (h : RH F l H) {a : Addr} (e : H a = none) (c : Cell) : Fle F (Hp.set F a c) := fun b d q =>
 (Hp.set_ne fun z => by rw [z] at q; rw [(h.fz _ _ q).1] at e; cases e).trans q
theorem RH.frz (h : RH F l H) {a : Addr} (e : H a = none) (c : Cell) : RH (Hp.set F a c) l (H.set a c) := by
 have ha : a ∉ l.adr := fun z => h.ce.ne0 a z e
 refine ⟨h.nd, h.ce.mono fun b x hb r => (r.heap fun d hd => Hp.set_ne fun z : d = a => ha (z ▸ hb d hd)).up (Fz.ext h e c), fun b d q => ?_⟩
 by_cases z : b = a
 ·subst z; rw [Hp.set_same] at q ⊢; exact ⟨q, ha⟩
 ·rw [Hp.set_ne z] at q ⊢; exact h.fz b d q
theorem RH.new (h : RH F l H) {a : Addr} (e : H a = none) {c : Cell} {x : C2} (hx : x.ads a = [a]) (r : RC F (H.set a c) a x) : RH F (.c a x l) (H.set a c) := by
 have ha : a ∉ l.adr := fun z => h.ce.ne0 a z e
 have ad : (Hl.c a x l).adr = a :: l.adr := by show x.ads a ++ l.adr = _; rw [hx]; rfl
 refine ⟨by rw [ad]; exact List.nodup_cons.mpr ⟨ha, h.nd⟩, ⟨r, h.ce.mono fun b x hb r => r.heap fun d hd => Hp.set_ne fun z : d = a => ha (z ▸ hb d hd)⟩, fun b d q => ?_⟩
 have hb : b ≠ a := fun z => by rw [z] at q; rw [(h.fz _ _ q).1] at e; cases e
 rw [Hp.set_ne hb, ad]
 exact ⟨(h.fz b d q).1, fun z => (List.mem_cons.mp z).elim hb (h.fz b d q).2⟩
theorem RH.make (h : RH F l H) {a d : Addr} {C : Addr} (i : isC C = true) (e : H a = none) (e2 : H d = none) (ne : a ≠ d) : RH F (.c a (.obj C d []) l) ((H.set d (.attrs [])).set a (.inst C d)) := by
 have ha : a ∉ l.adr := fun z => h.ce.ne0 a z e
 have hd : d ∉ l.adr := fun z => h.ce.ne0 d z e2
 refine ⟨List.nodup_cons.mpr ⟨fun z => (List.mem_cons.mp z).elim ne ha, List.nodup_cons.mpr ⟨hd, h.nd⟩⟩, ⟨⟨Hp.set_same _ _ _, [], (Hp.set_ne ne.symm).trans (Hp.set_same _ _ _), rfl, i⟩,
  h.ce.mono fun b x hb r => r.heap fun y hy => (Hp.set_ne fun z : y = a => ha (z ▸ hb y hy)).trans (Hp.set_ne fun z : y = d => hd (z ▸ hb y hy))⟩, fun b c q => ?_⟩
 have hb : b ≠ a := fun z => by rw [z] at q; rw [(h.fz _ _ q).1] at e; cases e
 have hb2 : b ≠ d := fun z => by rw [z] at q; rw [(h.fz _ _ q).1] at e2; cases e2
 rw [Hp.set_ne hb, Hp.set_ne hb2]
 exact ⟨(h.fz b c q).1, fun z => (List.mem_cons.mp z).elim hb fun z => (List.mem_cons.mp z).elim hb2 (h.fz b c q).2⟩
theorem Hl.set_adr {l : Hl} : ∀ {n a x y}, l.at n = Option.some (a, x) -> C2.ads a y = C2.ads a x -> (l.set n y).adr = l.adr := by
 induction l with
 | nil => exact fun e => none_no e
 | c d z r ih => exact fun {n a x y} => n.rec (fun e k => congrArg (· ++ _) (by rw [(Prod.mk.inj (Option.some.inj e)).1, (Prod.mk.inj (Option.some.inj e)).2]; exact k)) fun n O e k => congrArg (_ ++ ·) (ih e k)
theorem Hl.All.set {p q : Addr -> C2 -> Prop} {l : Hl} : ∀ {n a x y}, l.adr.Nodup -> l.All p -> l.at n = Option.some (a, x) -> q a y -> (∀ b z, (∀ d ∈ z.ads b, d ∉ C2.ads a x) -> p b z -> q b z) -> (l.set n y).All q := by
 induction l with
 | nil => exact fun O O e => none_no e
 | c d z r ih =>
  intro n a x y nd h e hy k
  have nd := List.nodup_append.mp nd
  cases n with
  | zero =>
   cases e
   exact ⟨hy, Hl.All.mono h.2 fun b z hb => k b z fun d hd hx => nd.2.2 d hx d (hb d hd) rfl⟩
  | succ n => exact ⟨k _ _ (fun d hd hx => nd.2.2 d hd d (Hl.at_adr (l := r) (n := n) e d hx) rfl) h.1, ih nd.2.1 h.2 e hy k⟩
theorem RH.upd (h : RH F l H) {n a x y b c} (e : l.at n = .some (a, x)) (hb : b ∈ C2.ads a x) (ha : C2.ads a y = C2.ads a x) (r : RC F (H.set b c) a y) : RH F (l.set n y) (H.set b c) := by
 have ad := Hl.set_adr e ha
 have hm := Hl.at_adr e b hb
 refine ⟨by rw [ad]; exact h.nd, h.ce.set h.nd e r fun d z hz r => r.heap fun y hy => Hp.set_ne fun q : y = b => hz y hy (q ▸ hb), fun d c q => ?_⟩
 have k := h.fz d c q
 have : d ≠ b := fun z => k.2 (z ▸ hm)
 rw [Hp.set_ne this, ad]; exact k
theorem RH.freeze (h : RH F l H) {n a x y c} (e : l.at n = .some (a, x)) (hx : C2.ads a x = [a]) (hy : C2.ads a y = []) (hc : H a = some c) (r : RC (Hp.set F a c) H a y) : Fle F (Hp.set F a c) /\ RH (Hp.set F a c) (l.set n y) H := by
 have hm : a ∈ l.adr := Hl.at_adr e a (by rw [hx]; exact .head _)
 have le : Fle F (Hp.set F a c) := fun b d q => (Hp.set_ne fun z : b = a => (h.fz _ _ q).2 (z ▸ hm)).trans q
 have sub : ∀ {l : Hl} {n}, l.adr.Nodup -> l.at n = Option.some (a, x) -> (l.set n y).adr.Sublist l.adr /\ a ∉ (l.set n y).adr := by
  intro l
  induction l with
  | nil => intro n _ e; cases e
  | c b z r ih =>
   intro n nd e
   induction n with
   | zero =>
    cases e
    show List.Sublist (_ ++ _) (_ ++ _) /\ a ∉ _ ++ _
    rw [hx, hy]
    exact ⟨List.sublist_append_right _ _, fun q => (List.nodup_append.mp nd).2.2 a (by rw [hx]; exact .head _) a q rfl⟩
   | succ n =>
    have i := ih (List.nodup_append.mp nd).2.1 (n := n) e
    refine ⟨(List.Sublist.refl _).append i.1, fun q => (List.mem_append.mp q).elim (fun q => ?_) i.2⟩
    exact (List.nodup_append.mp nd).2.2 a q a (Hl.at_adr (n := n) e a (by rw [hx]; exact .head _)) rfl
 have s := sub h.nd e
 refine ⟨le, h.nd.sublist s.1, h.ce.set h.nd e r fun b z O r => r.up le, fun b d q => ?_⟩
 by_cases z : b = a
 ·subst z; rw [Hp.set_same] at q; cases q; exact ⟨hc, s.2⟩
 ·rw [Hp.set_ne z] at q; exact ⟨(h.fz b d q).1, fun z => (h.fz b d q).2 (s.1.mem z)⟩
noncomputable def Hl.tl : Hl -> List (Addr × C2)
 | .nil => []
 | .c a x r => (a, x) :: r.tl
noncomputable def Sub (l l' : Hl) : Prop := ∃ r, l.tl.Perm (l'.tl ++ r)
theorem Sub.rfl : Sub l l := ⟨[], by rw [List.append_nil]⟩
theorem Hl.adr_tl (l : Hl) : l.adr = l.tl.flatMap fun p => p.2.ads p.1 := by
 induction l with
 | nil => exact _root_.rfl
 | c a x r ih => exact congrArg (_ ++ ·) ih
theorem Hl.all_tl {p : Addr -> C2 -> Prop} {l : Hl} : l.All p ↔ ∀ q ∈ l.tl, p q.1 q.2 := by
 induction l with
 | nil => exact Iff.intro (fun O O h => nil_no h) (fun O => trivial)
 | c a x r ih => exact Iff.intro (fun h q hq => (List.mem_cons.mp hq).elim (fun e => e ▸ h.1) (ih.mp h.2 q)) fun h => ⟨h _ (.head _), ih.mpr fun q hq => h q (.tail _ hq)⟩
theorem RH.sub (h : RH F l H) {l' : Hl} (s : Sub l l') : RH F l' H := by
 obtain ⟨r, p⟩ := s
 have q := p.flatMap_right fun p => p.2.ads p.1
 rw [<- Hl.adr_tl, List.flatMap_append, <- Hl.adr_tl] at q
 exact ⟨(List.nodup_append.mp (q.nodup h.nd)).1, Hl.all_tl.mpr fun x hx => Hl.all_tl.mp h.ce x (p.mem_iff.mpr (List.mem_append_left _ hx)), fun a c e => ⟨(h.fz a c e).1, fun z => (h.fz a c e).2 (q.mem_iff.mpr (List.mem_append_left _ z))⟩⟩
end
end
section
inductive Bi where
 | len | max | min | abs | sum | sorted | ord | int | tuple | list | dict | bytes | range
set_option genCtorIdx false in
inductive LW where
 | nil
 | o (r : LW)
 | s (w : W) (r : LW)
inductive F2 where
 | next | brk | cont
 | ret (w : W)
structure Kx where
 n : Nat
 fi : FI
 env : Env
structure Stp (P : Prop) : Prop where
 get : P
theorem stI {P : Prop} (h : P) : Stp P := ⟨h⟩
structure Sd (p q : Prop) : Prop where
 p : p
 q : q
noncomputable def Br (b : Bool) (P Q : Prop) : Prop := (b = true -> P) /\ (b = false -> Q)
noncomputable def Acc (l : Hl) (a : Addr) (K : Nat -> C2 -> Prop) : Prop := ∃ n x, l.at n = some (a, x) /\ K n x
noncomputable def getL : LW -> Nat -> (W -> Prop) -> Prop
 | .s w _, 0, k => k w
 | .s _ r, n + 1, k => getL r n k
 | .o r, n + 1, k => getL r n k
 | _, _, _ => False
noncomputable def setL : LW -> Nat -> W -> (LW -> Prop) -> Prop
 | .s _ r, 0, w, k => k (.s w r)
 | .o r, 0, w, k => k (.s w r)
 | .s x r, n + 1, w, k => setL r n w fun r => k (.s x r)
 | .o r, n + 1, w, k => setL r n w fun r => k (.o r)
 | .nil, _, _, _ => False
noncomputable def LW.g : LW -> Nat -> LW
 | .s w _, 0 => .s w .nil
 | .s _ r, n + 1 => r.g n
 | .o r, n + 1 => r.g n
 | _, _ => .o .nil
noncomputable def LW.pk (C : LW) : List Nat -> LW
 | [] => .nil
 | i :: r => match C.g i with
  | .s w _ => .s w (C.pk r)
  | _ => .o (C.pk r)
noncomputable def popN : Nat -> List W -> List W -> (List W -> List W -> Prop) -> Prop
 | 0, st, acc, k => k acc st
 | n + 1, st, acc, k => (match st with | v :: st => popN n st (v :: acc) k | [] => False)
noncomputable def top1 (st : List W) (k : W -> List W -> Prop) : Prop := match st with | v :: st => k v st | [] => False
noncomputable def intK (v : W) (k : Int -> Prop) (d : Prop) : Prop := match v with | .int i => k i | _ => d
noncomputable def boolK (v : W) (k : Bool -> Prop) : Prop := match v with | .bool i => k i | _ => False
noncomputable def refK (v : W) (k : Addr -> Prop) (d : Prop) : Prop := match v with | .ref i => k i | _ => d
noncomputable def noneK (v : W) (k : Prop) : Prop := match v with | .none => k | _ => False
noncomputable def tupK (v : W) (k : List W -> Prop) (d : Prop) : Prop := match v with | .tup vs => k vs | _ => d
noncomputable def strK (v : W) (k : Str -> Prop) (d : Prop) : Prop := match v with | .str x => k x | _ => d
noncomputable def ilK (v : W) (k : List Int -> Prop) (d : Prop) : Prop := match v with | .il x => k x | _ => d
noncomputable def popK : Nat -> List W -> List (Int × W) -> (List (Int × W) -> List W -> Prop) -> Prop
 | 0, st, acc, k => k acc st
 | n + 1, st, acc, k => top1 st fun v st => top1 st fun i st => intK i (fun i => popK n st ((i, v) :: acc) k) False
noncomputable def itemsK : Nat -> List W -> List W -> (List W -> Prop) -> Prop
 | 0, vs, st, k => (match vs with | [] => k st | _ => False)
 | n + 1, vs, st, k => (match vs with | v :: r => itemsK n r st (fun s => k (v :: s)) | [] => False)
noncomputable def toI : List W -> Option (List Int)
 | [] => some []
 | w :: r => match w with
  | .int i => (toI r).map (i :: ·)
  | _ => none
noncomputable def ilC (K : List Int -> Prop) : Nat -> C2 -> Prop := fun O x => match x with | .il y => K y | _ => False
noncomputable def rdI (v : W) (l : Hl) (K : List Int -> Prop) : Prop := ilK v K (refK v (fun a => Stp (Acc l a (ilC K))) False)
noncomputable def lsC (K : List W -> Prop) : Nat -> C2 -> Prop := fun O x => match x with | .il y => K (y.map .int) | .list y => K y | .frz y => K y | _ => False
noncomputable def dcC (K : List (Int × W) -> Prop) : Nat -> C2 -> Prop := fun O x => match x with | .dict y => K y | .fdict y => K y | _ => False
noncomputable def rdL (v : W) (l : Hl) (K : List W -> Prop) : Prop := match v with
 | .tup x => K x
 | .lst x => K x
 | .il x => K (x.map .int)
 | .ref a => Stp (Acc l a (lsC K))
 | _ => False
noncomputable def lkG {α} (l : List (Int × α)) (k : Int) : Option α := match l with
 | [] => none
 | p :: r => if p.1 = k then some p.2 else lkG r k
noncomputable def putG {α} (l : List (Int × α)) (k : Int) (v : α) : List (Int × α) := if l.any (fun p => p.1 = k) then l.map (fun p => if p.1 = k then (p.1, v) else p) else l ++ [(k, v)]
noncomputable def rdD (v : W) (l : Hl) (K : List (Int × W) -> Prop) : Prop := refK v (fun a => Stp (Acc l a (dcC K))) False
noncomputable def lkN (l : List (Nat × W)) (k : Nat) (K : W -> Prop) : Prop := match l with
 | [] => False
 | (a, w) :: r => bif Nat.beq a k then K w else lkN r k K
noncomputable def ptN (l : List (Nat × W)) (k : Nat) (w : W) (K : List (Nat × W) -> Prop) : Prop := match l with
 | [] => K [(k, w)]
 | (a, v) :: r => bif Nat.beq a k then K ((a, w) :: r) else ptN r k w fun r => K ((a, v) :: r)
theorem lkN_c {p : Nat × W} {r k K} : lkN (p :: r) k K = bif Nat.beq p.1 k then K p.2 else lkN r k K := rfl
theorem ptN_c {p : Nat × W} {r k w K} : ptN (p :: r) k w K = bif Nat.beq p.1 k then K ((p.1, w) :: r) else ptN r k w fun r => K (p :: r) := rfl
inductive Mk (ws : List W) (l : Hl) (K : W -> Hl -> Prop) : Prop
 | frz (h : K (.lst ws) l)
 | frI {ns} (e : ws = ns.map .int) (h : K (.il ns) l)
 | new (h : ∀ a, K (.ref a) (.c a (.list ws) l))
 | nwI {ns} (e : ws = ns.map .int) (h : ∀ a, K (.ref a) (.c a (.il ns) l))
noncomputable def ix {α} (x : List α) (i : Int) (K : α -> Prop) : Prop := ∃ v, 0 <= i /\ i < 2 ^ 63 /\ x[i.toNat]? = some v /\ K v
noncomputable def ixN {α} : List α -> Nat -> (α -> Prop) -> Prop
 | [], _, _ => False
 | v :: _, 0, K => K v
 | _ :: r, n + 1, K => ixN r n K
noncomputable def kiC (i : Int) (K : W -> Prop) : Nat -> C2 -> Prop := fun O x => match x with
  | .list y => Stp (ix y i K) | .frz y => Stp (ix y i K) | .il y => Stp (ix y i fun z => K (.int z))
  | .dict y => Stp (∃ w, lkG y i = some w /\ K w) | .fdict y => Stp (∃ w, lkG y i = some w /\ K w) | _ => False
noncomputable def knC (i : Nat) (K : W -> Prop) : Nat -> C2 -> Prop := fun O x => match x with
  | .list y => ixN y i K | .frz y => ixN y i K | .il y => ixN y i fun z => K (.int z)
  | .dict y => Stp (∃ w, lkG y i = some w /\ K w) | .fdict y => Stp (∃ w, lkG y i = some w /\ K w) | _ => False
noncomputable def siC (w : W) (i : Int) (K : Nat -> C2 -> Prop) : Nat -> C2 -> Prop := fun n x => match x with
  | .list y => Stp (Sd ((0 <= i /\ i < y.length) /\ y.length <= 10000000) (K n (.list (y.set i.toNat w))))
  | .il y => intK w (fun z => Stp (Sd ((0 <= i /\ i < y.length) /\ y.length <= 10000000) (K n (.il (y.set i.toNat z))))) False
  | .dict y => Stp (Sd (y.length <= 10000000) (K n (.dict (putG y i w))))
  | _ => False
noncomputable def kdI (v : W) (i : Int) (l : Hl) (K : W -> Prop) : Prop := match v with
 | .tup x => Stp (ix x i K)
 | .lst x => Stp (ix x i K)
 | .il x => Stp (ix x i fun z => K (.int z))
 | .bytes x => Stp (Sd ((0 <= i /\ i < x.size) /\ x.size <= 10000000) (K (.int ((x.getD i.toNat 0).toNat : Int))))
 | .str x => Stp (∃ c, 0 <= i /\ i < 2 ^ 63 /\ x.cps[i.toNat]? = some c /\ K (.str ⟨#[c]⟩))
 | .ref a => Stp (Acc l a (kiC i K))
 | _ => False
noncomputable def kdN (v : W) (i : Nat) (l : Hl) (K : W -> Prop) : Prop := match v with
 | .tup x => ixN x i K
 | .lst x => ixN x i K
 | .il x => ixN x i fun z => K (.int z)
 | .ref a => Stp (Acc l a (knC i K))
 | _ => False
noncomputable def stI' (v w : W) (i : Int) (l : Hl) (K : Hl -> Prop) : Prop := refK v (fun a => Stp (Acc l a (siC w i fun n y => K (l.set n y)))) False
noncomputable def coK (o : CmpOp) (x y : Int) (k : Bool -> Prop) : Prop := match o with
 | .Lt => k (decide (x < y)) | .LtE => k (decide (x <= y)) | .Gt => k (decide (y < x)) | .GtE => k (decide (y <= x)) | _ => False
noncomputable def EqP (X : Wd) (s : Bool) (a b : W) (l : Hl) (r : Bool) : Prop := ∀ n F H va vb (Q : V -> Hp -> Prop), RV F a va -> RV F b vb -> RH F l H -> Q (.bool r) H -> WCmp X n (bif s then .Eq else .NotEq) va vb H Q
noncomputable def sg (s r : Bool) (k : Bool -> Prop) : Prop := bif s then k r else k (!r)
noncomputable def eqK (X : Wd) (s : Bool) (a b : W) (l : Hl) (k : Bool -> Prop) : Prop := intK a (fun x => intK b (fun y => sg s (decide (x = y)) k) False) (strK a (fun x => strK b (fun y => bif s then k (x == y) else False) False) (Stp (∃ r, EqP X s a b l r /\ k r)))
noncomputable def W.tag (w : W) : Nat := w.casesOn 9 (fun O => 9) (fun O => 0) (fun O => 3) (fun O => 2) (fun O => 4) (fun O => 9) (fun O => 9) (fun O => 9) fun O O O => 9
noncomputable def isW (t : Nat) (w : W) : Option Bool := isN w.tag t
noncomputable def isNone : W -> Bool
 | .none => true
 | _ => false
noncomputable def mfn (m : Nat) : Addr × Addr := [(246, 180), (246, 187), (309, 292), (309, 299), (309, 306), (351, 334), (351, 341), (351, 348)].getD m (0, 0)
noncomputable def okX (C x : Nat) : Bool := Nat.beq C 246 || !Nat.beq x 0
noncomputable def mat (m : Nat) : Nat := bif Nat.beq m 2 then 0 else 99
noncomputable def noK (k : Nat) : List (Nat × W) -> Bool
 | [] => true
 | p :: r => !Nat.beq p.1 k && noK k r
noncomputable def ht (a : Addr) : Nat := match (hts.find? fun p => Nat.beq p.1 a) with | some p => p.2 | none => 1
where hts : List (Nat × Nat) := [(114, 2), (121, 3), (135, 4), (173, 5), (246, 6), (267, 7), (309, 2), (351, 2), (372, 2), (299, 2), (383, 3), (388, 3), (402, 3), (409, 2), (416, 3), (430, 4), (437, 5), (442, 6), (449, 4), (454, 5), (461, 7), (577, 8),
 (492, 2), (499, 2), (513, 2), (520, 3), (527, 3), (534, 3), (541, 2), (546, 3), (551, 2), (558, 4), (563, 5), (570, 2), (582, 9)]
inductive PW (F : Fz) (K : W -> Hl -> Prop) (v : V) (H : Hp) : Prop
 | mk {F' w l} (g : Fle F F') (r : RV F' w v) (h : RH F' l H) (k : K w l)
noncomputable def WC2 (X : Wd) (a : Addr) (ws : List W) (l : Hl) (K : W -> Hl -> Prop) : Prop := ∀ F vs H, RVs F ws vs -> RH F l H -> WC X (ht a) (.ref a) vs H (PW F K)
noncomputable def addK (a b : W) (l : Hl) (K : W -> Prop) : Prop := match a with
 | .int x => intK b (fun y => K (.int (x + y))) False
 | .tup x => tupK b (fun y => Stp (Sd ((x ≠ [] /\ y ≠ []) /\ x.length + y.length <= 10000000) (K (.tup (x ++ y))))) False
 | .str x => strK b (fun y => Stp (Sd (x.length + y.length <= 10000000) (K (.str (x ++ y))))) False
 | _ => rdI a l fun x => rdI b l fun y => Stp (Sd (x.length + y.length <= 10000000) (K (.il (x ++ y))))
noncomputable def sol (ws : List W) (k : W -> Prop) : Prop := match ws with | [] => False | w :: r => (match r with | [] => k w | _ :: _ => False)
noncomputable def dous (ws : List W) (k : W -> W -> Prop) (d : Prop) : Prop := match ws with | [] => d | w :: r => (match r with | [] => d | x :: r => (match r with | [] => k w x | _ :: _ => d))
noncomputable def lnC (K : Int -> Prop) : Nat -> C2 -> Prop := fun O x => match x with
   | .il y => Stp (Sd (y.length <= 10000000) (K y.length)) | .list y => Stp (Sd (y.length <= 10000000) (K y.length)) | .frz y => Stp (Sd (y.length <= 10000000) (K y.length))
   | .dict y => Stp (Sd (y.length <= 10000000) (K y.length)) | .fdict y => Stp (Sd (y.length <= 10000000) (K y.length)) | _ => False
noncomputable def biK (x : Bi) (ws : List W) (l : Hl) (K : W -> Hl -> Prop) : Prop := match x with
 | .len => sol ws fun w => (match w with
  | .bytes b => Stp (Sd (b.size <= 10000000) (K (.int b.size) l))
  | .ref a => Stp (Acc l a (lnC fun i => K (.int i) l))
  | w => rdL w l fun y => Stp (Sd (y.length <= 10000000) (K (.int y.length) l)))
 | .max => dous ws (fun a b => intK a (fun x => intK b (fun y => K (.int (max x y)) l) False) False) (sol ws fun a => ilK a (fun x => Stp (Sd (0 < x.length) (∀ M, M ∈ x /\ (∀ y ∈ x, y <= M) -> K (.int M) l))) False)
 | .min => dous ws (fun a b => intK a (fun x => intK b (fun y => K (.int (min x y)) l) False) False) (sol ws fun a => tupK a (fun x => match toI x with | some x => Stp (Sd (0 < x.length) (∀ M, M ∈ x /\ (∀ y ∈ x, M <= y) -> K (.int M) l)) | none => False) False)
 | .abs => sol ws fun a => intK a (fun x => K (.int (if x < 0 then -x else x)) l) False
 | .sum => sol ws fun a => ilK a (fun O => Stp (∀ i, K (.int i) l)) False
 | .sorted => sol ws fun a => rdD a l fun y => Stp (Sd (y.length < 64) (∀ ns : List Int, ns.Perm (y.map (·.1)) /\ ns.Pairwise (· <= ·) -> K (.il ns) l))
 | .ord => sol ws fun a => strK a (fun x => Stp (Sd (x.length = 1) (K (.int (x.cps.getD 0 0 : Nat)) l))) False
 | .int => sol ws fun a => intK a (fun x => K (.int x) l) False
 | .tuple => sol ws fun a => rdL a l fun y => Stp (Sd (y.length <= 10000000) (K (.tup y) l))
 | .list => sol ws fun a => (match a with
  | .bytes b => Stp (Sd (b.size <= 10000000) (K (.il (octs b)) l))
  | a => rdL a l fun y => Stp (Sd (y.length <= 10000000) (Stp (Mk y l K))))
 | .dict => sol ws fun a => rdD a l fun y => Stp (Sd (y.length <= 10000000) (∀ a, K (.ref a) (.c a (.dict y) l)))
 | .bytes => sol ws fun a => rdI a l fun y => Stp (Sd ((∀ i ∈ y, 0 <= i /\ i < 256) /\ y.length <= 10000000) (K (.bytes (byteArr y)) l))
 | .range => dous ws (fun a b => intK a (fun x => intK b (fun y => K (.rng x y 1) l) False) False) (match ws with
  | [] => False
  | a :: r => (match r with
   | [] => intK a (fun x => K (.rng 0 x 1) l) False
   | b :: r => sol r fun c => intK a (fun x => intK b (fun y => intK c (fun z => Stp (Sd (z = -1) (K (.rng x y (-1)) l))) False) False) False))
noncomputable def sl2K (o : W) (x y : Int) (k : W -> Prop) : Prop := match o with
 | .bytes z => Stp (Sd ((0 <= x /\ x <= y) /\ y <= z.size /\ z.size <= 10000000) (k (.bytes (pickB z x.toNat y.toNat))))
 | .tup z => Stp (Sd ((0 <= x /\ x <= y) /\ y <= z.length /\ y - x < z.length /\ z.length <= 10000000) (k (.tup ((z.drop x.toNat).take (y.toNat - x.toNat)))))
 | _ => False
noncomputable def slTK (X : Wd) (o : W) (y : Int) (k : W -> Prop) : Prop := match o with
 | .ref a => Stp (∃ xs m, ∃ vs : List Int, X.B.get? a = some (lstO xs m) /\ (∀ h, VRs h (vs.map .int) xs) /\ 0 <= y /\ vs.length <= 10000000 /\ k (.il (vs.take y.toNat)))
 | .tup z => Stp (Sd ((0 <= y /\ y < z.length) /\ z.length <= 10000000) (k (.tup (z.take y.toNat))))
 | .il z => Stp (Sd (0 <= y /\ z.length <= 10000000) (k (.il (z.take y.toNat))))
 | _ => False
noncomputable def slFK (o : W) (x : Int) (k : W -> Prop) : Prop := match o with
 | .bytes z => Stp (Sd ((0 <= x /\ x <= z.size) /\ z.size <= 10000000) (k (.bytes (pickB z x.toNat z.size))))
 | _ => False
noncomputable def rgW (x s : Int) : Nat -> List W
 | 0 => []
 | k + 1 => .int x :: rgW (x + s) s k
noncomputable def itm (w : W) (l : Hl) (ws : List W) : Prop := match w with
 | .tup x => ws = x
 | .lst x => ws = x
 | .il x => ws = x.map .int
 | .bytes x => ws = (octs x).map .int
 | .str x => x.cps.all (· < 128) = true /\ ws = x.cps.toList.map fun c => .str ⟨#[c]⟩
 | .rng a b c => Builtin.Range.small a b c = true /\ ∃ k : Nat, Builtin.Range.rangeSize a b c = k /\ ws = rgW a c k
 | _ => False
noncomputable def Its (w : W) (l : Hl) (ws : List W) (l' : Hl) : Prop := (itm w l ws /\ l' = l) \/ ∃ a n, w = .ref a /\
 ((∃ y, l.at n = some (a, .list y) /\ ws = y /\ l' = l.set n (.frz y)) \/ (l.at n = some (a, .frz ws) /\ l' = l) \/ (∃ y, l.at n = some (a, .dict y) /\ ws = y.map (fun p => .int p.1) /\ l' = l.set n (.fdict y)) \/ (∃ y, l.at n = some (a, .fdict y) /\ ws = y.map (fun p => .int p.1) /\ l' = l))
noncomputable def LW.fg : LW -> Nat -> LW
 | .s _ r, 0 => .o r
 | .o r, 0 => .o r
 | .s w r, n + 1 => .s w (r.fg n)
 | .o r, n + 1 => .o (r.fg n)
 | .nil, _ => .nil
noncomputable def LW.fgs (L : LW) (m : List Nat) : LW := m.foldl LW.fg L
noncomputable abbrev Qt := F2 -> LW -> LW -> Hl -> Prop
noncomputable def Cd := Wd -> Kx -> Qt -> List W -> LW -> LW -> Hl -> Prop
inductive RQ (K : W -> Hl -> Prop) : Qt
 | ret {w L C l} (h : K w l) : RQ K (.ret w) L C l
 | next {L C l} (h : K .none l) : RQ K .next L C l
inductive FQ (I : LW -> LW -> Hl -> Prop) (Q : Qt) : Qt
 | next {L C l l'} (m : List Nat) (s : Sub l l') (h : I (L.fgs m) C l') : FQ I Q .next L C l
 | ret {w L C l} (h : Q (.ret w) L C l) : FQ I Q (.ret w) L C l
inductive WQ (I : Nat -> LW -> LW -> Hl -> Prop) (fin : LW -> LW -> Hl -> Prop) (Q : Qt) (k : Nat) : Qt
 | next {m L C l l'} (fs : List Nat) (s : Sub l l') (h : m < k /\ I m (L.fgs fs) C l') : WQ I fin Q k .next L C l
 | brk {L C l} (h : fin L C l) : WQ I fin Q k .brk L C l
 | ret {w L C l} (h : Q (.ret w) L C l) : WQ I fin Q k (.ret w) L C l
inductive CQ (I : List W -> Hl -> Prop) (d : List W) : Qt
 | ret {w L C l} (h : I (d ++ [w]) l) : CQ I d (.ret w) L C l
 | cont {L C l} (h : I d l) : CQ I d .cont L C l
noncomputable def ForP {α} (w : W) (its : W -> Hl -> List α -> Hl -> Prop) (L C : LW) (l : Hl) (Q : Qt) (fin : LW -> LW -> Hl -> Prop) (body : Qt -> α -> LW -> LW -> Hl -> Prop) : Prop :=
 ∃ ws l1, ∃ I : List α -> LW -> LW -> Hl -> Prop, its w l ws l1 /\ I ws L C l1 /\ (∀ L C l, I [] L C l -> fin L C l) /\ ∀ v r L C l, I (v :: r) L C l -> body (FQ (I r) Q) v L C l
noncomputable def WhlP (L C : LW) (l : Hl) (Q : Qt) (fin : LW -> LW -> Hl -> Prop) (body : Qt -> LW -> LW -> Hl -> Prop) : Prop :=
 ∃ k, ∃ I : Nat -> LW -> LW -> Hl -> Prop, I k L C l /\ ∀ k L C l, I k L C l -> body (WQ I fin Q k) L C l
noncomputable def LcP (w : W) (l : Hl) (fin : List W -> Hl -> Prop) (body : Qt -> W -> Hl -> Prop) : Prop :=
 ∃ ws l1, ∃ I : List W -> List W -> Hl -> Prop, Its w l ws l1 /\ I ws [] l1 /\ (∀ d l, I [] d l -> fin d l) /\ ∀ v r d l, I (v :: r) d l -> d.length <= 10000000 /\ body (CQ (I r) d) v l
noncomputable def Itd (w : W) (l : Hl) (ws : List (Int × W)) (l' : Hl) : Prop := ∃ a n, w = .ref a /\ ((l.at n = some (a, .dict ws) /\ l' = l.set n (.fdict ws)) \/ (l.at n = some (a, .fdict ws) /\ l' = l))
noncomputable def Fro (d : List W) (l : Hl) (K : W -> Hl -> Prop) : Prop := K (.lst d) l \/ ∃ ns, d = ns.map .int /\ K (.il ns) l
noncomputable def DcP (w : W) (l : Hl) (fin : List (Int × W) -> Hl -> Prop) (body : Qt -> W -> Hl -> Prop) : Prop :=
 ∃ ws l1, ∃ I : List W -> List (Int × W) -> Hl -> Prop, Its w l ws l1 /\ I ws [] l1 /\ (∀ d l, I [] d l -> fin d l) /\ ∀ v r d l, I (v :: r) d l -> ∃ i, v = .int i /\ d.length <= 10000000 /\ body (RQ fun w l => I r (putG d i w) l) v l
noncomputable def gaC (x : Nat) (K : W -> Prop) : Nat -> C2 -> Prop := fun O y => match y with | .obj B _ kvs => (bif okX B x then lkN kvs x K else False) | _ => False
noncomputable def saC (x : Nat) (w : W) (K : Nat -> C2 -> Prop) : Nat -> C2 -> Prop := fun n y => match y with | .obj B d kvs => (bif Nat.ble kvs.length 500 && okX B x then ptN kvs x w fun kvs => K n (.obj B d kvs) else False) | _ => False
noncomputable def imC (m : Nat) (K : Prop) : Nat -> C2 -> Prop := fun O y => match y with | .obj B _ kvs => (bif Nat.beq B (mfn m).1 && noK (mat m) kvs then K else False) | _ => False
noncomputable def lmC (t : Bool) (K : Prop) : Nat -> C2 -> Prop := fun O y => match y with
   | .list _ => (bif t then K else False) | .il _ => (bif t then K else False)
   | .dict _ => (bif t then False else K) | .fdict _ => (bif t then False else K) | _ => False
noncomputable def apC (v : W) (K : Nat -> C2 -> Prop) : Nat -> C2 -> Prop := fun n y => match y with
   | .list z => Stp (Sd (z.length <= 10000000) (K n (.list (z ++ [v]))))
   | .il z => intK v (fun i => Stp (Sd (z.length <= 10000000) (K n (.il (z ++ [i]))))) False
   | _ => False
noncomputable def exC (x : List Int) (K : Nat -> C2 -> Prop) : Nat -> C2 -> Prop := fun n y => match y with
   | .il z => Stp (Sd (z.length + x.length <= 10000000) (K n (.il (z ++ x))))
   | _ => False
noncomputable def ppC (K : W -> Nat -> C2 -> Prop) : Nat -> C2 -> Prop := fun n y => match y with
   | .list z => Stp (∃ r v, z = r ++ [v] /\ r.length <= 1000000 /\ K v n (.list r))
   | _ => False
noncomputable def ru (X : Wd) (κ : Kx) (Q : Qt) (c : Cd) (st : List W) (L C : LW) (l : Hl) : Prop := c X κ Q st L C l
noncomputable def Cd.done : Cd := fun _ _ Q _ L C l => Q .next L C l
noncomputable def Cd.brk : Cd := fun _ _ Q _ L C l => Q .brk L C l
noncomputable def Cd.cont : Cd := fun _ _ Q _ L C l => Q .cont L C l
noncomputable def Cd.ret : Cd := fun _ _ Q st L C l => top1 st fun v O => Q (.ret v) L C l
noncomputable def Cd.bad : Cd := fun _ _ _ _ _ _ _ => False
noncomputable def Cd.k (v : W) (c : Cd) : Cd := fun X κ Q st L C l => ru X κ Q c (v :: st) L C l
noncomputable def Cd.i (x : Int) (c : Cd) : Cd := fun X κ Q st L C l => ru X κ Q c (.int x :: st) L C l
noncomputable def Cd.l (i : Nat) (c : Cd) : Cd := fun X κ Q st L C l => getL L i fun v => ru X κ Q c (v :: st) L C l
noncomputable def Cd.e (i : Nat) (c : Cd) : Cd := fun X κ Q st L C l => getL C i fun v => ru X κ Q c (v :: st) L C l
noncomputable def Cd.sl (i : Nat) (c : Cd) : Cd := fun X κ Q st L C l => top1 st fun v st => setL L i v fun L => ru X κ Q c st L C l
noncomputable def Cd.se (i : Nat) (c : Cd) : Cd := fun X κ Q st L C l => top1 st fun v st => setL C i v fun C => ru X κ Q c st L C l
noncomputable def Cd.pop (c : Cd) : Cd := fun X κ Q st L C l => top1 st fun v st => noneK v (ru X κ Q c st L C l)
noncomputable def Cd.drp (c : Cd) : Cd := fun X κ Q st L C l => top1 st fun O st => ru X κ Q c st L C l
noncomputable def Cd.add (c : Cd) : Cd := fun X κ Q st L C l => top1 st fun b st => top1 st fun a st => addK a b l fun v => ru X κ Q c (v :: st) L C l
noncomputable def Cd.sb (c : Cd) : Cd := fun X κ Q st L C l => top1 st fun b st => top1 st fun a st => intK a (fun x => intK b (fun y => ru X κ Q c (.int (x - y) :: st) L C l) False) False
noncomputable def Cd.neg (c : Cd) : Cd := fun X κ Q st L C l => top1 st fun a st => intK a (fun x => ru X κ Q c (.int (-x) :: st) L C l) False
noncomputable def Cd.not (c : Cd) : Cd := fun X κ Q st L C l => top1 st fun a st => boolK a fun x => ru X κ Q c (.bool (!x) :: st) L C l
noncomputable def Cd.p256 (c : Cd) : Cd := fun X κ Q st L C l => top1 st fun a st => intK a (fun x => Stp (Sd (0 <= x /\ x <= 1000) (ru X κ Q c (.int (256 ^ x.toNat) :: st) L C l))) False
noncomputable def Cd.mul (c : Cd) : Cd := fun X κ Q st L C l => top1 st fun b st => top1 st fun a st => intK b (fun y => intK a (fun x => Stp (Sd (y.natAbs < 2 ^ 64) (ru X κ Q c (.int (x * y) :: st) L C l)))
   (ilK a (fun x => match x with | [z] => Stp (Sd (-10000000 <= y /\ y <= 10000000) (Stp (Mk (List.replicate y.toNat (.int z)) l fun v l => ru X κ Q c (v :: st) L C l))) | _ => False) False)) False
noncomputable def Cd.mi (i : Int) (c : Cd) : Cd := fun X κ Q st L C l => top1 st fun a st => intK a (fun x => ru X κ Q c (.int (x * i) :: st) L C l) False
noncomputable def Cd.ml (i : Int) (c : Cd) : Cd := fun X κ Q st L C l => top1 st fun a st => intK a (fun x => ru X κ Q c (.int (i * x) :: st) L C l) False
noncomputable def Cd.di (i : Int) (c : Cd) : Cd := fun X κ Q st L C l => top1 st fun a st => intK a (fun x => ru X κ Q c (.int (x / i) :: st) L C l) False
noncomputable def Cd.md (i : Int) (c : Cd) : Cd := fun X κ Q st L C l => top1 st fun a st => intK a (fun x => ru X κ Q c (.int (x % i) :: st) L C l) False
noncomputable def Cd.mod (c : Cd) : Cd := fun X κ Q st L C l => top1 st fun b st => top1 st fun a st => intK a (fun x => intK b (fun y => Stp (Sd (0 < y) (ru X κ Q c (.int (x % y) :: st) L C l))) False) False
noncomputable def Cd.div (c : Cd) : Cd := fun X κ Q st L C l => top1 st fun b st => top1 st fun a st => intK a (fun x => intK b (fun y => Stp (Sd (0 < y /\ y < 1073741824) (ru X κ Q c (.int (x / y) :: st) L C l))) False) False
noncomputable def Cd.co (o : CmpOp) (c : Cd) : Cd := fun X κ Q st L C l => top1 st fun b st => top1 st fun a st => intK a (fun x => intK b (fun y => coK o x y fun z => ru X κ Q c (.bool z :: st) L C l) False) False
noncomputable def Cd.eq (s : Bool) (c : Cd) : Cd := fun X κ Q st L C l => top1 st fun b st => top1 st fun a st => eqK X s a b l fun z => ru X κ Q c (.bool z :: st) L C l
noncomputable def Cd.isn (c : Cd) : Cd := fun X κ Q st L C l => top1 st fun b st => top1 st fun a st => noneK b (ru X κ Q c (.bool (isNone a) :: st) L C l)
noncomputable def Cd.ck (c : Cd) : Cd := fun X κ Q st L C l => top1 st fun a st => intK a (fun x => ru X κ Q c (.int x :: st) L C l) False
noncomputable def Cd.mem (s : Bool) (c : Cd) : Cd := fun X κ Q st L C l => top1 st fun b st => top1 st fun a st => intK a (fun x => rdD b l fun y => Stp (∃ r, (lkG y x).isSome = r /\ sg s r fun r => ru X κ Q c (.bool r :: st) L C l)) False
noncomputable def Cd.tup (m : Nat) (c : Cd) : Cd := fun X κ Q st L C l => popN m st [] fun vs st => ru X κ Q c (.tup vs :: st) L C l
noncomputable def Cd.lst (m : Nat) (c : Cd) : Cd := fun X κ Q st L C l => popN m st [] fun vs st => match toI vs with | some ns => ru X κ Q c (.il ns :: st) L C l | none => ru X κ Q c (.lst vs :: st) L C l
noncomputable def Cd.lsa (m : Nat) (c : Cd) : Cd := fun X κ Q st L C l => popN m st [] fun vs st => Stp (Mk vs l fun v l => ru X κ Q c (v :: st) L C l)
noncomputable def Cd.d0 (c : Cd) : Cd := fun X κ Q st L C l => Stp (∀ a, ru X κ Q c (.ref a :: st) L C (.c a (.dict []) l))
noncomputable def Cd.dd (m : Nat) (c : Cd) : Cd := fun X κ Q st L C l => popK m st [] fun kvs st => Stp (∀ a, ru X κ Q c (.ref a :: st) L C (.c a (.dict (kvs.foldl (fun a p => putG a p.1 p.2) [])) l))
noncomputable def Cd.gi (n : Nat) (c : Cd) : Cd := fun X κ Q st L C l => top1 st fun o st => kdN o n l fun v => ru X κ Q c (v :: st) L C l
noncomputable def Cd.sub (c : Cd) : Cd := fun X κ Q st L C l => top1 st fun i st => top1 st fun o st => intK i (fun i => kdI o i l fun v => ru X κ Q c (v :: st) L C l) False
noncomputable def Cd.ss (c : Cd) : Cd := fun X κ Q st L C l => top1 st fun i st => top1 st fun o st => top1 st fun v st => intK i (fun i => stI' o v i l fun l => ru X κ Q c st L C l) False
noncomputable def Cd.sl2 (c : Cd) : Cd := fun X κ Q st L C l => top1 st fun hi st => top1 st fun lo st => top1 st fun o st => intK hi (fun y => intK lo (fun x => sl2K o x y fun v => ru X κ Q c (v :: st) L C l) False) False
noncomputable def Cd.slT (c : Cd) : Cd := fun X κ Q st L C l => top1 st fun hi st => top1 st fun o st => intK hi (fun y => slTK X o y fun v => ru X κ Q c (v :: st) L C l) False
noncomputable def Cd.slF (c : Cd) : Cd := fun X κ Q st L C l => top1 st fun lo st => top1 st fun o st => intK lo (fun x => slFK o x fun v => ru X κ Q c (v :: st) L C l) False
noncomputable def Cd.ga (x : Nat) (c : Cd) : Cd := fun X κ Q st L C l => top1 st fun o st => refK o (fun a => Stp (Acc l a (gaC x fun v => ru X κ Q c (v :: st) L C l))) False
noncomputable def Cd.sa (x : Nat) (c : Cd) : Cd := fun X κ Q st L C l => top1 st fun o st => top1 st fun v st => refK o (fun a => Stp (Acc l a (saC x v fun n y => ru X κ Q c st L C (l.set n y)))) False
noncomputable def Cd.im (m : Nat) (c : Cd) : Cd := fun X κ Q st L C l => top1 st fun o st => refK o (fun a => Stp (Acc l a (imC m (ru X κ Q c (o :: st) L C l)))) False
noncomputable def Cd.lm (t : Bool) (c : Cd) : Cd := fun X κ Q st L C l => top1 st fun o st => refK o (fun a => Stp (Acc l a (lmC t (ru X κ Q c (o :: st) L C l)))) False
noncomputable def Cd.ap (c : Cd) : Cd := fun X κ Q st L C l => top1 st fun v st => top1 st fun o st => refK o (fun a => Stp (Acc l a (apC v fun n y => ru X κ Q c (.none :: st) L C (l.set n y)))) False
noncomputable def Cd.ex (c : Cd) : Cd := fun X κ Q st L C l => top1 st fun v st => top1 st fun o st => refK o (fun a => rdI v l fun x => Stp (Acc l a (exC x fun n y => ru X κ Q c (.none :: st) L C (l.set n y)))) False
noncomputable def Cd.pp (c : Cd) : Cd := fun X κ Q st L C l => top1 st fun o st => refK o (fun a => Stp (Acc l a (ppC fun v n y => ru X κ Q c (v :: st) L C (l.set n y)))) False
noncomputable def Cd.dg (m : Nat) (c : Cd) : Cd := fun X κ Q st L C l => popN m st [] fun vs st => top1 st fun o st => dous vs (fun i d => intK i (fun i => rdD o l fun y => Stp (∃ v, (lkG y i).getD d = v /\ ru X κ Q c (v :: st) L C l)) False)
   (sol vs fun i => intK i (fun i => rdD o l fun y => Stp (∃ v, (lkG y i).getD .none = v /\ ru X κ Q c (v :: st) L C l)) False)
noncomputable def Cd.f (a : Addr) (m : Nat) (c : Cd) : Cd := fun X κ Q st L C l => popN m st [] fun vs st => Stp (WC2 X a vs l fun v l => ru X κ Q c (v :: st) L C l)
noncomputable def Cd.b (x : Bi) (m : Nat) (c : Cd) : Cd := fun X κ Q st L C l => popN m st [] fun vs st => biK x vs l fun v l => ru X κ Q c (v :: st) L C l
noncomputable def Cd.isi (t : Nat) (c : Cd) : Cd := fun X κ Q st L C l => top1 st fun v st => match isW t v with | some b => ru X κ Q c (.bool b :: st) L C l | none => False
noncomputable def Cd.unp (m : Nat) (c : Cd) : Cd := fun X κ Q st L C l => top1 st fun v st => tupK v (fun vs => itemsK m vs st fun st => ru X κ Q c st L C l) False
noncomputable def Cd.br (a b : Cd) : Cd := fun X κ Q st L C l => top1 st fun v st => boolK v fun x => Stp (Br x (ru X κ Q a st L C l) (ru X κ Q b st L C l))
noncomputable def Cd.jf (a b : Cd) : Cd := fun X κ Q st L C l => top1 st fun v st => boolK v fun x => Stp (Br x (ru X κ Q a st L C l) (ru X κ Q b (.bool x :: st) L C l))
noncomputable def Cd.ch (o : CmpOp) (a b : Cd) : Cd := fun X κ Q st L C l => top1 st fun v st => top1 st fun u st => intK u (fun x => intK v (fun y => coK o x y fun z => Stp (Br z (ru X κ Q a (v :: st) L C l) (ru X κ Q b (.bool z :: st) L C l))) False) False
noncomputable def Cd.for_ (b c : Cd) : Cd := fun X κ Q st L C l => top1 st fun v st => Stp (ForP v Its L C l Q (fun L C l => ru X κ Q c st L C l) fun Q' w L C l => ru X κ Q' b [w] L C l)
noncomputable def Cd.whl (b c : Cd) : Cd := fun X κ Q st L C l => Stp (WhlP L C l Q (fun L C l => ru X κ Q c st L C l) fun Q' L C l => ru X κ Q' b [] L C l)
noncomputable def Cd.fit (b c : Cd) : Cd := fun X κ Q st L C l => top1 st fun v st => Stp (ForP v Itd L C l Q (fun L C l => ru X κ Q c st L C l) fun Q' w L C l => ru X κ Q' b [.int w.1, w.2] L C l)
noncomputable def Cd.en0 (c : Cd) : Cd := fun X κ Q st L C l => top1 st fun v st => tupK v (fun vs => match vs with | [] => ru X κ Q c st L C l | _ => False) False
noncomputable def Cd.lc (R : List Nat) (fi : FI) (b c : Cd) : Cd := fun X κ Q st L C l => top1 st fun v st => Stp (LcP v l (fun d l => Fro d l fun w l => ru X κ Q c (w :: st) L C l) fun Q' w l => ∀ env, ru X ⟨κ.n, fi, env⟩ Q' b [] (.s w .nil) (C.pk R) l)
noncomputable def Cd.dc (R : List Nat) (fi : FI) (b c : Cd) : Cd := fun X κ Q st L C l => top1 st fun v st => Stp (DcP v l (fun d l => ∀ a, ru X κ Q c (.ref a :: st) L C (.c a (.dict d) l)) fun Q' w l => ∀ env, ru X ⟨κ.n, fi, env⟩ Q' b [] (.s w .nil) (C.pk R) l)
end
section
noncomputable def idx (x : Str) : List Str -> Option Nat
 | [] => none
 | y :: r => bif y == x then some 0 else (idx x r).map (· + 1)
theorem idx_c {x y : Str} {r : List Str} : idx x (y :: r) = bif y == x then some 0 else (idx x r).map (· + 1) := rfl
noncomputable def gval (K : Frag) (x : Str) : Option Value := match nsIn K mainGlobals x with
 | some o => (match o with | some v => some v | none => bif x == dnm then none else bootBuiltins x)
 | none => none
where dnm : Str := "__name__"
noncomputable def gvs (K : Frag) (l : List Str) : List (Str × Value) := l.filterMap fun x => (gval K x).map (x, ·)
noncomputable def noStar (e : Expr) : Bool := !Nat.beq e.ctorIdx 22
noncomputable def noSup (e : Expr) : Bool := !Nat.beq e.ctorIdx 16
noncomputable def noSet (e : Expr) : Bool := !Nat.beq e.ctorIdx 7
noncomputable def noComp (e : Expr) : Bool := !(Nat.ble 8 e.ctorIdx && Nat.ble e.ctorIdx 10)
noncomputable def isLst (e : Expr) : Bool := Nat.beq e.ctorIdx 24
noncomputable def isTup (e : Expr) : Bool := Nat.beq e.ctorIdx 25
noncomputable def isNm (e : Expr) : Bool := Nat.beq e.ctorIdx 23
set_option genCtorIdx false in
inductive EVw where
 | nm (x : Str) (p : Pos) | int (i : Int) | sl (a b c : Option Expr) | tu (es : List Expr) | dc (k v : Expr) (gs : List Comprehension) (sc : Scope) (p : Pos) | at_ (o : Expr) (x : Str) (p : Pos) | ca (f : Expr) (es : List Expr) (ks : List Keyword) (p : Pos) | sb (o i : Expr) (p : Pos) | ot
noncomputable def ev : Expr -> EVw
 | .Name x p => .nm x p
 | .Constant k _ _ => match k with | .int i => .int i | _ => .ot
 | .Slice a b c _ => .sl a b c
 | .Tuple es _ _ => .tu es
 | .DictComp k v gs sc p => .dc k v gs sc p
 | .Attribute o x p => .at_ o x p
 | .Call f es ks p => .ca f es ks p
 | .Subscript o i p => .sb o i p
 | _ => .ot
noncomputable def EvOK (e : Expr) : EVw -> Prop
 | .nm x p => e = .Name x p
 | .int i => ∃ k p, e = .Constant (.int i) k p
 | .sl a b c => ∃ p, e = .Slice a b c p
 | .tu es => ∃ k p, e = .Tuple es k p
 | .dc k v gs sc p => e = .DictComp k v gs sc p
 | .at_ o x p => e = .Attribute o x p
 | .ca f es ks p => e = .Call f es ks p
 | .sb o i p => e = .Subscript o i p
 | .ot => True
theorem ev_ok (e : Expr) : EvOK e (ev e) := by
 cases e with
 | Constant k => cases k with
  | int => exact ⟨_, _, rfl⟩
  | _ => trivial
 | Slice => exact ⟨_, rfl⟩
 | Tuple => exact ⟨_, _, rfl⟩
 | Name | DictComp | Attribute | Call | Subscript => exact rfl
 | _ => trivial
noncomputable def EVw.nm? : EVw -> Option (Str × Pos)
 | .nm x p => some (x, p)
 | _ => none
noncomputable def EVw.int? : EVw -> Option Int
 | .int i => some i
 | _ => none
noncomputable def EVw.sl? : EVw -> Option (Option Expr × Option Expr × Option Expr)
 | .sl a b c => some (a, b, c)
 | _ => none
noncomputable def EVw.tu? : EVw -> Option (List Expr)
 | .tu es => some es
 | _ => none
noncomputable def EVw.dc? : EVw -> Option (Expr × Expr × List Comprehension × Scope × Pos)
 | .dc k v gs sc p => some (k, v, gs, sc, p)
 | _ => none
noncomputable def EVw.at? : EVw -> Option (Expr × Str × Pos)
 | .at_ o x p => some (o, x, p)
 | _ => none
noncomputable def EVw.ca? : EVw -> Option (Expr × List Expr × List Keyword × Pos)
 | .ca f es ks p => some (f, es, ks, p)
 | _ => none
noncomputable def nmO (e : Expr) := (ev e).nm?
noncomputable def lit (e : Expr) := (ev e).int?
noncomputable def slc (e : Expr) := (ev e).sl?
noncomputable def tupE (e : Expr) := (ev e).tu?
noncomputable def ifc (b : Bool) (c : Cd) : Cd := bif b then c else .bad
noncomputable def opt {α} (o : Option α) (f : α -> Cd) : Cd := match o with | some x => f x | none => .bad
noncomputable def one {α} (l : List α) (f : α -> Cd) : Cd := match l with | [] => .bad | x :: r => (match r with | [] => f x | _ :: _ => .bad)
noncomputable def two {α} (l : List α) (f : α -> α -> Cd) : Cd := match l with | [] => .bad | x :: r => one r (f x)
noncomputable def emp {α} (l : List α) (c : Cd) : Cd := match l with | [] => c | _ :: _ => .bad
noncomputable def konst (k : Const) (c : Cd) : Cd := match k with
 | .int i => .i i c
 | .str s => .k (.str s) c
 | .bool b => .k (.bool b) c
 | .none => .k .none c
 | _ => .bad
noncomputable def intsV : List Value -> Option (List Int)
 | [] => some []
 | v :: r => match v with
  | .int i _ => (intsV r).map (i :: ·)
  | _ => none
noncomputable def tupO' : Obj -> Option (List Int)
 | ⟨.type t, none, .seq xs _, ⟨[]⟩⟩ => bif t == "tuple" then intsV xs.toList else none
 | _ => none
noncomputable def glob (K : Frag) (v : Value) (c : Cd) : Cd := match v with
 | .int j _ => .i j c
 | .str s _ => .k (.str s) c
 | .ref a => opt ((K.lookup a).bind tupO') fun l => .k (.tup (l.map .int)) c
 | _ => .bad
noncomputable def name (K : Frag) (fi : FI) (x : Str) (c : Cd) : Cd := match idx x fi.L with
 | some i => .l i c
 | none => match idx x (fi.C ++ fi.R) with
  | some i => .e i c
  | none => opt (fi.G.lookup x) fun v => glob K v c
section
variable (E : Expr -> Cd -> Cd) (T : Expr -> Cd -> Cd -> Cd)
noncomputable def cBin (l : Expr) (o : Operator) (r : Expr) (c : Cd) : Cd := match o with
 | .Add => E l (E r (.add c))
 | .Sub => E l (E r (.sb c))
 | .Mult => (match lit r, isLst l with
  | some i, false => ifc (decide (i.natAbs < 2 ^ 64)) (E l (.mi i c))
  | _, _ => match lit l with
   | some i => ifc (decide (i.natAbs < 2 ^ 64)) (E r (.ml i c))
   | none => E l (E r (.mul c)))
 | .Mod => (match lit r with | some i => ifc (decide (0 < i)) (E l (.md i c)) | none => E l (E r (.mod c)))
 | .FloorDiv => (match lit r with | some i => ifc (decide (0 < i) && decide (i < 1073741824)) (E l (.di i c)) | none => E l (E r (.div c)))
 | .Pow => opt (lit l) fun a => (match lit r with
  | some b => ifc (decide (0 <= b) && decide ((Builtin.Int.intBits a : Int) * b <= 2 ^ 27)) (.i (a ^ b.toNat) c)
  | none => ifc (decide (a = 256)) (E r (.p256 c)))
 | _ => .bad
noncomputable def cmpC (o : CmpOp) (c : Cd) : Cd := match o with
 | .Eq => .eq true c | .NotEq => .eq false c | .Is => .isn c | .In => .mem true c | .NotIn => .mem false c | .Lt => .co .Lt c | .LtE => .co .LtE c | .Gt => .co .Gt c | .GtE => .co .GtE c | _ => .bad
noncomputable def cCmp (l : Expr) (os : List CmpOp) (rs : List Expr) (c d : Cd) : Cd := match os with
 | [] => .bad
 | o :: os => (match rs with
  | [] => .bad
  | r :: rs => (match os with
   | [] => emp rs (ifc (!behindInMarks o r) (E l (E r (cmpC o c))))
   | o' :: os => emp os (one rs fun r' => ifc (!lastMarks [o, o'] [r, r']) (E l (E r (.ch o (E r' (cmpC o' c)) d))))))
noncomputable def tests (op : BoolOp) : List Expr -> Cd -> Cd -> Cd
 | [], a, b => (match op with | .And => a | .Or => b)
 | e :: r, a, b => (match op with | .And => T e (tests op r a b) b | .Or => T e a (tests op r a b))
noncomputable def ands : List Expr -> Cd -> Cd
 | [], _ => .bad
 | e :: r, c => (match r with | [] => E e c | _ :: _ => E e (.jf (ands r c) c))
noncomputable def args : List Expr -> Cd -> Cd
 | [], c => c
 | e :: r, c => E e (args r c)
noncomputable def kys : List (Option Expr) -> Option (List Expr)
 | [] => some []
 | o :: r => match o with
  | some e => (kys r).map (e :: ·)
  | none => none
noncomputable def prs : List Expr -> List Expr -> Cd -> Cd
 | k :: ks, v :: vs, c => E k (.ck (E v (prs ks vs c)))
 | _, _, c => c
noncomputable def cDict (ks : List (Option Expr)) (vs : List Expr) (c : Cd) : Cd := match ks with
 | [] => emp vs (.d0 c)
 | k :: r => opt (kys (k :: r)) fun es => ifc (es.length == vs.length && Nat.ble es.length 15) (prs E es vs (.dd es.length c))
noncomputable def cSub (o i : Expr) (c : Cd) : Cd := match slc i with
 | some p => (match p with | (a, b, s) => (match s with
  | some _ => .bad
  | none => (match a with
   | some a => (match b with
    | some b => E o (E a (.ck (E b (.ck (.sl2 c)))))
    | none => E o (E a (.ck (.slF c))))
   | none => opt b fun b => E o (E b (.ck (.slT c))))))
 | none => (match lit i with
  | some j => (match j with | .ofNat k => ifc (Nat.ble k 1000000) (E o (.gi k c)) | .negSucc _ => .bad)
  | none => E o (E i (.sub c)))
end
noncomputable def Bi.s : Bi -> String
 | .len => "len" | .max => "max" | .min => "min" | .abs => "abs" | .sum => "sum" | .sorted => "sorted" | .ord => "ord"
 | .int => "int" | .tuple => "tuple" | .list => "list" | .dict => "dict" | .bytes => "bytes" | .range => "range"
noncomputable def Bi.ty : Bi -> Bool
 | .len => false | .max => false | .min => false | .abs => false | .sum => false | .sorted => false | .ord => false
 | _ => true
noncomputable def Bi.v (b : Bi) : Value := bif b.ty then .type b.s else .builtin b.s
noncomputable def biA : List Bi := [.len, .max, .min, .abs, .sum, .sorted, .ord, .int, .tuple, .list, .dict, .bytes, .range]
noncomputable def biF (t : Bool) (x : String) : Option Bi := biA.find? fun b => b.s == x && b.ty == t
noncomputable def idS (x : String) : List String -> Option Nat
 | [] => none
 | y :: r => bif y == x then some 0 else (idS x r).map (· + 1)
theorem idS_c {x y : String} {r : List String} : idS x (y :: r) = bif y == x then some 0 else (idS x r).map (· + 1) := rfl
inductive Lm where
 | ap | ex | pp | dg
noncomputable def lmO (x : Str) (o : Expr) : Option Lm := bif x == s1 then some .ap else bif x == s2 then some .ex else bif x == s3 && !isNm o then some .pp else bif x == s4 then some .dg else none
where
 s1 : Str := "append"
 s2 : Str := "extend"
 s3 : Str := "pop"
 s4 : Str := "get"
noncomputable def mnm : List Str := ["has", "width", "number", "signed", "taken", "push", "pop", "go"]
noncomputable def innerG (K : Frag) (sc : Scope) : List (Str × Value) := gvs K ((sc.names.filter fun p => p.2 == .globalImplicit).map (·.1))
noncomputable def innerR (sc : Scope) : List Str := (sc.names.filter fun p => p.2 == .free).map (·.1)
section
variable (K : Frag) (n : Nat) (ask : Bool) (E : Expr -> Cd -> Cd)
noncomputable def cCallN (G : List (Str × Value)) (x : Str) (es : List Expr) (c : Cd) : Cd := opt (G.lookup x) fun v => match v with
 | .builtin id => bif id == "isinstance" then two es (fun e t => opt (nmO t) fun y => opt (G.lookup y.1) fun v => match v with
   | .type T => opt (idS T isT) fun k => E e (.isi k c)
   | _ => .bad)
  else opt (biF false id) fun b => ifc (!es.isEmpty) (args E es (.b b es.length c))
 | .type id => opt (biF true id) fun b => ifc (!es.isEmpty) (args E es (.b b es.length c))
 | .ref a => ifc (keepIn K (.ref a) && Nat.ble (ht a) n) (args E es (.f a es.length c))
 | _ => .bad
noncomputable def cCallA (o : Expr) (x : Str) (es : List Expr) (c : Cd) : Cd := match lmO x o with
 | some t => (match t with
  | .ap => one es fun e => E o (.lm true (E e (.ap c)))
  | .ex => one es fun e => E o (.lm true (E e (.ex c)))
  | .pp => emp es (E o (.lm true (.pp c)))
  | .dg => E o (.lm false (args E es (.dg es.length c))))
 | none => opt (idx x mnm) fun m => ifc (Nat.ble (ht (mfn m).2) n) (E o (.im m (args E es (.f (mfn m).2 (es.length + 1) c))))
noncomputable def cCall (G : List (Str × Value)) (f : Expr) (es : List Expr) (ks : List Keyword) (pos : Pos) (c : Cd) : Cd := emp ks (ifc (es.all noStar) (match ev f with
 | .nm x _ => cCallN K n E G x es c
 | .at_ o x apos => ifc (noSup o && apos.endLine == pos.line && decide (es.length < 30)) (cCallA n E o x es c)
 | _ => .bad))
noncomputable def cE : Nat -> FI -> Bool -> Expr -> Cd -> Cd -> Cd
 | 0, _, _, _, _, _ => .bad
 | m + 1, fi, t, e, a, b => match e with
  | .Constant k _ _ => bif t then .bad else konst k a
  | .Name x p => bif t then cE m fi false (.Name x p) (.br a b) .bad else name K fi x a
  | .BinOp l o r _ => bif t then .bad else cBin (fun e c => cE m fi false e c .bad) l o r a
  | .UnaryOp o x _ => (match o with | .USub => bif t then .bad else cE m fi false x (.neg a) .bad | .Not => bif t then cE m fi true x b a else cE m fi false x (.not a) .bad | _ => .bad)
  | .BoolOp op es _ => bif t then tests (fun e a b => cE m fi true e a b) op es a b else (match op with | .And => ands (fun e c => cE m fi false e c .bad) es a | _ => .bad)
  | .Compare l os rs _ => bif t then cCmp (fun e c => cE m fi false e c .bad) l os rs (.br a b) (.drp b) else cCmp (fun e c => cE m fi false e c .bad) l os rs a a
  | .IfExp q x y _ => bif t then .bad else cE m fi true q (cE m fi false x a .bad) (cE m fi false y a .bad)
  | .Tuple es _ _ => bif t then .bad else ifc (es.all noStar && decide (es.length <= 10000000)) (args (fun e c => cE m fi false e c .bad) es (.tup es.length a))
  | .List es _ => bif t then .bad else ifc (es.all noStar && decide (es.length <= 10000000)) (args (fun e c => cE m fi false e c .bad) es (bif ask then .lsa es.length a else .lst es.length a))
  | .Dict ks vs _ => bif t then .bad else cDict (fun e c => cE m fi false e c .bad) ks vs a
  | .Attribute o x _ => bif t then .bad else ifc (noSup o) (opt (idx x anm) fun i => cE m fi false o (.ga i a) .bad)
  | .Subscript o i _ => bif t then .bad else cSub (fun e c => cE m fi false e c .bad) o i a
  | .Call f es ks p => bif t then cE m fi false (.Call f es ks p) (.br a b) .bad else cCall K n (fun e c => cE m fi false e c .bad) fi.G f es ks p a
  | .ListComp elt gs sc _ => bif t then .bad else one gs fun g => opt (nmO g.target) fun x => ifc (g.is_async == 0 && ccChk sc x.1 (innerG K sc) (innerR sc) && (innerR sc).all (fi.C ++ fi.R).contains && noSet g.iter)
    (cE m fi false g.iter (.lc ((innerR sc).map fun y => (idx y (fi.C ++ fi.R)).getD 0) ⟨innerG K sc, [x.1], [], innerR sc⟩ (match g.ifs with
     | [] => cE m ⟨innerG K sc, [x.1], [], innerR sc⟩ false elt .ret .bad
     | t :: r => emp r (cE m ⟨innerG K sc, [x.1], [], innerR sc⟩ true t (cE m ⟨innerG K sc, [x.1], [], innerR sc⟩ false elt .ret .bad) .cont)) a) .bad)
  | _ => .bad
end
section
variable (K : Frag) (n : Nat) (ask : Bool) (fi : FI)
noncomputable def cA1 (t : Expr) (c : Cd) : Cd := match ev t with
 | .nm x _ => (match idx x fi.L with
  | some i => .sl i c
  | none => ifc (fi.C.contains x) (opt (idx x (fi.C ++ fi.R)) fun i => .se i c))
 | .at_ o x _ => opt (idx x anm) fun i => cE K n ask 30 fi false o (.sa i c) .bad
 | .sb o i _ => cE K n ask 30 fi false o (cE K n ask 30 fi false i (.ss c) .bad) .bad
 | _ => .bad
noncomputable def unpA (ts : List Expr) (c : Cd) : Cd := ifc (ts.all noStar) (.unp ts.length (args (cA1 K n ask fi) ts c))
noncomputable def cA (t : Expr) (c : Cd) : Cd := match tupE t with
 | some ts => unpA K n ask fi ts c
 | none => cA1 K n ask fi t c
noncomputable def nms : List Expr -> Option (List (Str × Pos))
 | [] => some []
 | e :: r => (nmO e).bind fun p => (nms r).map (p :: ·)
noncomputable def swOK (ns : List (Str × Pos)) (vs : List Expr) : Bool :=
 (ns.length == 2 || ns.length == 3) && vs.length == ns.length && vs.all noStar && ns.all (fun p => fi.L.contains p.1 && p.2.line == ((ns.map (·.2.line)).head?).getD 0) && (ns.map (·.1)).eraseDups.length == ns.length && !vs.all (foldedForSure 8) && !vs.all (constantsAlone 8)
noncomputable def swNo (ts : List Expr) : Bool := !(ts.length == 2 || ts.length == 3) || ts.any fun e => !isNm e
noncomputable def tupA (ts vs : List Expr) (c : Cd) : Cd := ifc (swNo ts && vs.all noStar && decide (vs.length <= 10000000)) (args (fun e c => cE K n ask 30 fi false e c .bad) vs (.tup vs.length (unpA K n ask fi ts c)))
noncomputable def dcO (e : Expr) := (ev e).dc?
noncomputable def dcS (y : Str) (tp dp : Pos) (sc : Scope) : Bool := tp.line == dp.line && !(sc.names.any fun (n, k) => n == y && (k == .local || k == .cell))
noncomputable def cDc (t : Expr) (q : Expr × Expr × List Comprehension × Scope × Pos) (c : Cd) : Cd := match q with
 | (k, v, gs, sc, dp) => opt (nmO t) fun z => one gs fun g => opt (nmO g.target) fun x => opt (nmO k) fun y => emp g.ifs (ifc (fi.L.contains z.1 && dcS z.1 z.2 dp sc && g.is_async == 0 && y.1 == x.1 && ccChk sc x.1 (innerG K sc) (innerR sc) && (innerR sc).all (fi.C ++ fi.R).contains && noSet g.iter)
    (cE K n ask 30 fi false g.iter (.dc ((innerR sc).map fun y => (idx y (fi.C ++ fi.R)).getD 0) ⟨innerG K sc, [x.1], [], innerR sc⟩ (cE K n ask 30 ⟨innerG K sc, [x.1], [], innerR sc⟩ false v .ret .bad) (cA1 K n ask fi t c)) .bad))
noncomputable def cAsg (t v : Expr) (c : Cd) : Cd := match dcO v with
 | some q => cDc K n ask fi t q c
 | none => match tupE t with
 | some ts => (match tupE v with
  | some vs => (match nms ts with
   | some ns => bif swOK fi ns vs then args (fun e c => cE K n ask 30 fi false e c .bad) vs (args (cA1 K n ask fi) ts.reverse c) else tupA K n ask fi ts vs c
   | none => tupA K n ask fi ts vs c)
  | none => ifc (noComp v) (cE K n ask 30 fi false v (cA K n ask fi t c) .bad))
 | none => ifc (noComp v && noStar t && !isLst t) (cE K n ask 30 fi false v (cA K n ask fi t c) .bad)
noncomputable def itmsO (e : Expr) := (ev e).at?
noncomputable def callO (e : Expr) := (ev e).ca?
noncomputable def cFor2 (t i : Expr) (b c : Cd) : Cd := opt (callO i) fun q => match q with
 | (f, es, ks, p) => emp ks (match itmsO f with
  | some (o, x, ap) => emp es (ifc (x == s5 && noSup o && ap.endLine == p.line) (opt (tupE t) fun ts => ifc (ts.all noStar && ts.length == 2) (cE K n ask 30 fi false o (.lm false (.fit (args (cA1 K n ask fi) ts b) c)) .bad)))
  | none => opt (nmO f) fun y => opt (fi.G.lookup y.1) fun v => (match v with
   | .type T => ifc (T == "enumerate") (one es fun e => ifc (noStar e) (cE K n ask 30 fi false e (.en0 c) .bad))
   | _ => .bad))
where s5 : Str := "items"
noncomputable def cS : Nat -> List Stmt -> Cd -> Cd
 | 0, _, _ => .bad
 | m + 1, ss, c => match ss with
  | [] => c
  | s :: r => (match s with
   | .Assign ts v _ => one ts fun t => cAsg K n ask fi t v (cS m r c)
   | .If t b o _ => cE K n ask 30 fi true t (cS m b (cS m r c)) (cS m o (cS m r c))
   | .Return e _ => (match e with | some e => cE K n ask 30 fi false e .ret .bad | none => .k .none .ret)
   | .Pass _ => cS m r c
   | .Expr e _ => ifc (noComp e) (cE K n ask 30 fi false e (.pop (cS m r c)) .bad)
   | .Try b hs o f _ => emp o (emp f (ifc (!hs.isEmpty) (cS m b (cS m r c))))
   | .While t b o _ => emp o (.whl (cE K n ask 30 fi true t (cS m b .done) .brk) (cS m r c))
   | .For t i b o _ => emp o (bif isTup t then cFor2 K n ask fi t i (cS m b .done) (cS m r c) else ifc (noSet i && noStar t && !isLst t) (cE K n ask 30 fi false i (.for_ (cA1 K n ask fi t (cS m b .done)) (cS m r c)) .bad))
   | _ => .bad)
end
end
section
noncomputable abbrev Ls := List (Str × Option V)
noncomputable def RL (F : Fz) : LW -> Ls -> Prop
 | .nil, l => l = []
 | .o r, l => ∃ p l', l = p :: l' /\ RL F r l'
 | .s w r, l => ∃ x v l', l = (x, some v) :: l' /\ RV F w v /\ RL F r l'
theorem RL.up {F F' : Fz} (g : Fle F F') {L : LW} : ∀ {l}, RL F L l -> RL F' L l := by
 induction L with
 | nil => exact id
 | o r ih => exact fun q => q.elim fun p q => q.elim fun l q => ⟨p, l, q.1, ih q.2⟩
 | s w r ih => exact fun q => q.elim fun x q => q.elim fun v q => q.elim fun l q => ⟨x, v, l, q.1, q.2.1.up g, ih q.2.2⟩
theorem RL.fg {F : Fz} {L : LW} : ∀ {l} {i : Nat}, RL F L l -> RL F (L.fg i) l := by
 induction L with
 | nil => exact id
 | o r ih => exact fun {l i} q => i.rec q fun i O => q.elim fun p q => q.elim fun l q => ⟨p, l, q.1, ih q.2⟩
 | s w r ih => exact fun {l i} q => q.elim fun x q => q.elim fun v q => q.elim fun l q => i.rec ⟨_, l, q.1, q.2.2⟩ fun i O => ⟨x, v, l, q.1, q.2.1, ih q.2.2⟩
theorem RL.fgs {F : Fz} {l} {m : List Nat} : ∀ {L : LW}, RL F L l -> RL F (L.fgs m) l := by
 induction m with
 | nil => exact id
 | cons n m ih => exact fun h => ih h.fg
structure Rl (F : Fz) (L C : LW) (fr : Frame) : Prop where
 l : RL F L fr.L
 c : RL F C fr.C
theorem Rl.up {F F' : Fz} {L C fr} (g : Fle F F') (h : Rl F L C fr) : Rl F' L C fr := ⟨h.l.up g, h.c.up g⟩
theorem getL_ok {F : Fz} {x : Str} {k : W -> Prop} {L : LW} : ∀ {l : Ls} {i : Nat}, getL L i k -> RL F L l -> (l.map (·.1))[i]? = some x -> ∃ w v, Get l x v /\ RV F w v /\ k w := by
 induction L with
 | nil => exact fun h => h.elim
 | o r ih =>
  intro l i h q
  cases i with
  | zero => exact h.elim
  | succ i => exact q.elim fun p q => q.elim fun l q => q.1 ▸ fun e => (ih h q.2 e).elim fun w z => z.elim fun v z => ⟨w, v, .next z.1, z.2⟩
 | s w r ih =>
  intro l i h q
  cases i with
  | zero => exact q.elim fun y q => q.elim fun v q => q.elim fun l q => q.1 ▸ fun e => ⟨w, v, Option.some.inj e ▸ .here, q.2.1, h⟩
  | succ i => exact q.elim fun y q => q.elim fun v q => q.elim fun l q => q.1 ▸ fun e => (ih h q.2.2 e).elim fun w z => z.elim fun v z => ⟨w, v, .next z.1, z.2⟩
theorem setL_ok {F : Fz} {x : Str} {w : W} {v : V} (rv : RV F w v) {L : LW} : ∀ {l : Ls} {i : Nat} {k : LW -> Prop}, setL L i w k -> RL F L l -> (l.map (·.1))[i]? = some x -> ∃ l' L', Put l x v l' /\ RL F L' l' /\ k L' := by
 induction L with
 | nil => exact fun h => h.elim
 | o r ih =>
  intro l i k h q
  cases i with
  | zero => exact q.elim fun p q => q.elim fun l q => q.1 ▸ fun e => ⟨(x, some v) :: l, .s w r, (show _ = x from Option.some.inj e) ▸ Put.here (o := p.2), ⟨_, _, _, rfl, rv, q.2⟩, h⟩
  | succ i => exact q.elim fun p q => q.elim fun l q => q.1 ▸ fun e => (ih h q.2 e).elim fun l2 z => z.elim fun L2 z => ⟨_, .o L2, .next z.1, ⟨_, _, rfl, z.2.1⟩, z.2.2⟩
 | s w0 r ih =>
  intro l i k h q
  cases i with
  | zero => exact q.elim fun y q => q.elim fun u q => q.elim fun l q => q.1 ▸ fun e => ⟨(x, some v) :: l, .s w r, (show y = x from Option.some.inj e) ▸ Put.here, ⟨_, _, _, rfl, rv, q.2.2⟩, h⟩
  | succ i => exact q.elim fun y q => q.elim fun v q => q.elim fun l q => q.1 ▸ fun e => (ih h q.2.2 e).elim fun l2 z => z.elim fun L2 z => ⟨_, .s w0 L2, .next z.1, ⟨_, _, _, rfl, q.2.1, z.2.1⟩, z.2.2⟩
inductive PT (F : Fz) (K : Bool -> Hl -> Prop) (b : Bool) (H : Hp) : Prop
 | mk {F' l} (g : Fle F F') (h : RH F' l H) (k : K b l)
inductive PA2 (F : Fz) (K : LW -> LW -> Hl -> Prop) (fr : Frame) (H : Hp) : Prop
 | mk {F' L C l} (g : Fle F F') (f : Rl F' L C fr) (h : RH F' l H) (k : K L C l)
noncomputable def RF (F : Fz) : F2 -> Fl -> Prop
 | .next, f => f = .next
 | .brk, f => f = .brk
 | .cont, f => f = .cont
 | .ret w, f => ∃ v, f = .ret v /\ RV F w v
inductive PX (F : Fz) (Q : Qt) (fl : Fl) (fr : Frame) (H : Hp) : Prop
 | mk {F' f2 L C l} (g : Fle F F') (r : RF F' f2 fl) (f : Rl F' L C fr) (h : RH F' l H) (k : Q f2 L C l)
theorem PW.el {F K v H} {R : Prop} (p : PW F K v H) (k : ∀ {F' w l}, Fle F F' -> RV F' w v -> RH F' l H -> K w l -> R) : R := p.rec fun g r h q => k g r h q
theorem PW.tr {F F0 K v H} (g : Fle F0 F) (p : PW F K v H) : PW F0 K v H := p.rec fun g' r h k => ⟨g.trans g', r, h, k⟩
theorem WEs.mono {X n fi env} {F : Frame} {es : List Expr} {H} {Q Q' : List V -> Hp -> Prop} (h : WEs X n fi env F es H Q') (k : ∀ v H', Q' v H' -> Q v H') : WEs X n fi env F es H Q := fun E A P s pos r S f =>
 wpAny_mono (h E A P s pos r S f) (fun O O p => p.rec fun O O a b c d => ⟨_, _, a, b, c, k _ _ d⟩) fun O O x => x
theorem WT.mono {X n fi env} {F : Frame} {e : Expr} {H} {Q Q' : Bool -> Hp -> Prop} (h : WT X n fi env F e H Q') (k : ∀ v H', Q' v H' -> Q v H') : WT X n fi env F e H Q := fun E A P s r S f =>
 wpAny_mono (h E A P s r S f) (fun O O p => p.rec fun O a b c => ⟨_, a, b, k _ _ c⟩) fun O O x => x
theorem W2.mono {X n} {t : Value -> Value -> Sem Value} {u v : V} {H} {Q Q' : V -> Hp -> Prop} (h : W2 X n t u v H Q') (k : ∀ v H', Q' v H' -> Q v H') : W2 X n t u v H Q := fun A P s va vb r S ra rb =>
 wpAny_mono (h A P s va vb r S ra rb) (fun O O p => p.rec fun O O a b c d => ⟨_, _, a, b, c, k _ _ d⟩) fun O O x => x
theorem WA.mono {X n fi env} {F : Frame} {t : Expr} {v : V} {H} {Q Q' : Frame -> Hp -> Prop} (h : WA X n fi env F t v H Q') (k : ∀ F' H', Q' F' H' -> Q F' H') : WA X n fi env F t v H Q := fun E A P s u r S f rv =>
 wpAny_mono (h E A P s u r S f rv) (fun O O p => p.rec fun O O O a b c d e => ⟨_, _, _, a, b, c, d, k _ _ e⟩) fun O O x => x
theorem WTs.mono' {X n fi env op} {F : Frame} {es : List Expr} {H} {Q Q' : Bool -> Hp -> Prop} (h : WTs X n fi env op F es H Q') (k : ∀ v H', Q' v H' -> Q v H') : WTs X n fi env op F es H Q := fun E A P s r S f =>
 wpAny_mono (h E A P s r S f) (fun O O p => p.rec fun O a b c => ⟨_, a, b, k _ _ c⟩) fun O O x => x
theorem WBs.mono' {X n fi env op} {F : Frame} {es : List Expr} {H} {Q Q' : V -> Hp -> Prop} (h : WBs X n fi env op F es H Q') (k : ∀ v H', Q' v H' -> Q v H') : WBs X n fi env op F es H Q := fun E A P s pos r S f =>
 wpAny_mono (h E A P s pos r S f) (fun O O p => p.rec fun O O a b c d => ⟨_, _, a, b, c, k _ _ d⟩) fun O O x => x
theorem WPr.mono' {X n fi env} {F : Frame} {ps : List (Expr × Expr)} {H} {Q Q' : List (Int × V) -> Hp -> Prop} (h : WPr X n fi env F ps H Q') (k : ∀ v H', Q' v H' -> Q v H') : WPr X n fi env F ps H Q := fun E A P s pos r S f =>
 wpAny_mono (h E A P s pos r S f) (fun O O p => p.elim fun kvs p => p.elim fun es p => p.elim fun H' p => ⟨kvs, es, H', p.1, p.2.1, p.2.2.1, p.2.2.2.1, k _ _ p.2.2.2.2⟩) fun O O x => x
theorem WSI.mono' {X n} {o i v : V} {H} {Q Q' : Hp -> Prop} (h : WSI X n o i v H Q') (k : ∀ H', Q' H' -> Q H') : WSI X n o i v H Q := fun A P s vo vi vv r S ro ri rv =>
 wpAny_mono (h A P s vo vi vv r S ro ri rv) (fun O O p => p.rec fun O a b c => ⟨_, a, b, k _ c⟩) fun O O x => x
theorem WAs.mono' {X n fi env} {F : Frame} {ts : List Expr} {vs : List V} {H} {Q Q' : Frame -> Hp -> Prop} (h : WAs X n fi env F ts vs H Q') (k : ∀ F' H', Q' F' H' -> Q F' H') : WAs X n fi env F ts vs H Q := fun E A P s us r S f rv =>
 wpAny_mono (h E A P s us r S f rv) (fun O O p => p.rec fun O O O a b c d e => ⟨_, _, _, a, b, c, d, k _ _ e⟩) fun O O x => x
theorem weW {X n fi env fr e H F} {K : W -> Hl -> Prop} {Q : V -> Hp -> Prop} (h : WE X n fi env fr e H (PW F K)) (k : ∀ {F' w l v H'}, Fle F F' -> RV F' w v -> RH F' l H' -> K w l -> Q v H') : WE X n fi env fr e H Q := h.mono fun O O p => p.el k
theorem wtW {X n fi env fr e H F} {K : Bool -> Hl -> Prop} {Q : Bool -> Hp -> Prop} (h : WT X n fi env fr e H (PT F K)) (k : ∀ {F' b l H'}, Fle F F' -> RH F' l H' -> K b l -> Q b H') : WT X n fi env fr e H Q := h.mono fun O O p => p.rec fun g h q => k g h q
theorem we_fr {X n fi env H} {F : Frame} {e : Expr} {Q : V -> Hp -> Prop} (h : F.L.map (·.1) = fi.L -> F.C.map (·.1) = fi.C ++ fi.R -> WE X n fi env F e H Q) : WE X n fi env F e H Q := fun E A P s r S f => h f.nL f.nC E A P s r S f
theorem wa_fr {X n fi env H} {F : Frame} {e : Expr} {v : V} {Q : Frame -> Hp -> Prop} (h : F.L.map (·.1) = fi.L -> F.C.map (·.1) = fi.C ++ fi.R -> WA X n fi env F e v H Q) : WA X n fi env F e v H Q := fun E A P s u r S f => h f.nL f.nC E A P s u r S f
section
variable {X : Wd} {κ : Kx} {Q : Qt} {st : List W} {L C : LW} {l : Hl}
theorem ifc_ok {b : Bool} {c : Cd} (h : ru X κ Q (ifc b c) st L C l) : b = true /\ ru X κ Q c st L C l := by
 induction b with
 | true => exact ⟨rfl, h⟩
 | false => exact False.elim h
theorem opt_ok {α} {o : Option α} {f : α -> Cd} (h : ru X κ Q (opt o f) st L C l) : ∃ x, o = some x /\ ru X κ Q (f x) st L C l := by
 induction o with
 | none => exact False.elim h
 | some x => exact ⟨x, rfl, h⟩
theorem emp_ok {α} {o : List α} {c : Cd} (h : ru X κ Q (emp o c) st L C l) : o = [] /\ ru X κ Q c st L C l := by
 induction o with
 | nil => exact ⟨rfl, h⟩
 | cons => exact False.elim h
theorem one_ok {α} {o : List α} {f : α -> Cd} (h : ru X κ Q (one o f) st L C l) : ∃ x, o = [x] /\ ru X κ Q (f x) st L C l := by
 cases o with
 | nil => exact False.elim h
 | cons x r => induction r with
  | nil => exact ⟨x, rfl, h⟩
  | cons => exact False.elim h
theorem two_ok {α} {o : List α} {f : α -> α -> Cd} (h : ru X κ Q (two o f) st L C l) : ∃ x y, o = [x, y] /\ ru X κ Q (f x y) st L C l := by
 induction o with
 | nil => exact False.elim h
 | cons x r => exact (one_ok h).elim fun y q => ⟨x, y, congrArg (x :: ·) q.1, q.2⟩
end
theorem sol_ok {ws : List W} {k : W -> Prop} (h : sol ws k) : ∃ w, ws = [w] /\ k w := by
 cases ws with
 | nil => exact False.elim h
 | cons w r => induction r with
  | nil => exact ⟨w, rfl, h⟩
  | cons => exact False.elim h
theorem dous_ok {ws : List W} {k : W -> W -> Prop} {d : Prop} (h : dous ws k d) : (∃ a b, ws = [a, b] /\ k a b) \/ d := by
 cases ws with
 | nil => exact .inr h
 | cons w r => cases r with
  | nil => exact .inr h
  | cons x r => induction r with
   | nil => exact .inl ⟨w, x, rfl, h⟩
   | cons => exact .inr h
theorem intK_ok {v : W} {k : Int -> Prop} {d : Prop} (h : intK v k d) : (∃ i, v = .int i /\ k i) \/ d := by
 cases v with
 | int i => exact .inl ⟨i, rfl, h⟩
 | _ => exact .inr h
theorem int_ok {v : W} {k : Int -> Prop} (h : intK v k False) : ∃ i, v = .int i /\ k i := (intK_ok h).elim id False.elim
theorem refK_ok {v : W} {k : Addr -> Prop} {d : Prop} (h : refK v k d) : (∃ i, v = .ref i /\ k i) \/ d := by
 cases v with
 | ref i => exact .inl ⟨i, rfl, h⟩
 | _ => exact .inr h
theorem ref_ok {v : W} {k : Addr -> Prop} (h : refK v k False) : ∃ i, v = .ref i /\ k i := (refK_ok h).elim id False.elim
theorem bool_ok {v : W} {k : Bool -> Prop} (h : boolK v k) : ∃ i, v = .bool i /\ k i := by
 cases v with
 | bool i => exact ⟨i, rfl, h⟩
 | _ => exact False.elim h
theorem none_ok {v : W} {k : Prop} (h : noneK v k) : v = .none /\ k := by
 cases v with
 | none => exact ⟨rfl, h⟩
 | _ => exact False.elim h
theorem tupK_ok {v : W} {k : List W -> Prop} {d : Prop} (h : tupK v k d) : (∃ i, v = .tup i /\ k i) \/ d := by
 cases v with
 | tup i => exact .inl ⟨i, rfl, h⟩
 | _ => exact .inr h
theorem strK_ok {v : W} {k : Str -> Prop} {d : Prop} (h : strK v k d) : (∃ i, v = .str i /\ k i) \/ d := by
 cases v with
 | str i => exact .inl ⟨i, rfl, h⟩
 | _ => exact .inr h
theorem ilK_ok {v : W} {k : List Int -> Prop} {d : Prop} (h : ilK v k d) : (∃ i, v = .il i /\ k i) \/ d := by
 cases v with
 | il i => exact .inl ⟨i, rfl, h⟩
 | _ => exact .inr h
theorem popN_eq {k : List W -> List W -> Prop} {st vs : List W} : ∀ {acc : List W}, popN vs.length (vs ++ st) acc k -> k (vs.reverse ++ acc) st := by
 induction vs with
 | nil => exact id
 | cons v vs ih => exact fun {acc} h => by rw [List.reverse_cons, List.append_assoc]; exact ih (acc := v :: acc) h
theorem popN_ok {k : List W -> List W -> Prop} {st vs : List W} {m : Nat} (e : vs.length = m) (h : popN m (vs.reverse ++ st) [] k) : k vs st := by
 have := popN_eq (vs := vs.reverse) (acc := []) (st := st) (k := k) (by rw [List.length_reverse, e]; exact h)
 rwa [List.reverse_reverse, List.append_nil] at this
theorem toI_ok {ws : List W} : ∀ {ns}, toI ws = some ns -> ws = ns.map .int := by
 induction ws with
 | nil => exact fun e => Option.some.inj e ▸ rfl
 | cons w r ih =>
  cases w with
  | int i => exact fun e => (Option.map_eq_some_iff.mp e).elim fun q e => e.2 ▸ congrArg (_ :: ·) (ih e.1)
  | _ => exact fun e => none_no e
theorem RVs.intsI {F : Fz} {ns : List Int} : ∀ {vs}, RVs F (ns.map .int) vs -> vs = ns.map .int := by
 induction ns with
 | nil => exact id
 | cons n ns ih => exact fun q => q.elim fun x q => q.elim fun r q => q.1.trans (by rw [show x = _ from q.2.1, ih q.2.2]; rfl)
section
variable {F : Fz} {l : Hl} {H : Hp}
theorem rdI_ok {v : W} {K : List Int -> Prop} {va : V} (h : rdI v l K) (r : RV F v va) (rh : RH F l H) : ∃ a y, va = .ref a /\ H a = some (.list (y.map .int)) /\ K y := by
 rcases ilK_ok h with ⟨x, rfl, h⟩ | h
 ·obtain ⟨a, e, q⟩ := r; exact ⟨a, x, e, (rh.fz _ _ q).1, h⟩
 ·obtain ⟨a, rfl, h⟩ := ref_ok h
  obtain ⟨n, x, e, h⟩ := h.get
  induction x with
  | il y => exact ⟨a, y, r, rh.get e, h⟩
  | _ => exact False.elim h
theorem rdL_ok {v : W} {K : List W -> Prop} {va : V} (h : rdL v l K) (r : RV F v va) (rh : RH F l H) : (∃ a vs y, va = .ref a /\ H a = some (.list vs) /\ RVs F y vs /\ K y) \/ ∃ vs y, va = .tup vs /\ RVs F y vs /\ K y := by
 cases v with
 | tup x => obtain ⟨vs, e, q⟩ := r; exact .inr ⟨vs, x, e, q, h⟩
 | lst x => obtain ⟨a, vs, e, f, q⟩ := r; exact .inl ⟨a, vs, x, e, (rh.fz _ _ f).1, q, h⟩
 | il x => obtain ⟨a, e, f⟩ := r; exact .inl ⟨a, _, _, e, (rh.fz _ _ f).1, RVs.ints x, h⟩
 | ref a =>
  obtain ⟨n, x, e, h⟩ := (show Stp _ from h).get
  have q := rh.get e
  induction x with
  | il y => exact .inl ⟨a, _, _, r, q, RVs.ints y, h⟩
  | list y => obtain ⟨vs, q, z⟩ := q; exact .inl ⟨a, vs, y, r, q, z, h⟩
  | frz y => obtain ⟨vs, q, z⟩ := q; exact .inl ⟨a, vs, y, r, (rh.fz _ _ q).1, z, h⟩
  | _ => exact False.elim h
 | _ => exact False.elim h
theorem rdD_ok {v : W} {K : List (Int × W) -> Prop} {va : V} (h : rdD v l K) (r : RV F v va) (rh : RH F l H) : ∃ a kv ep y, va = .ref a /\ H a = some (.dict kv ep) /\ RK F id y kv /\ K y := by
 refine cps fun G0 z0 => ?_
 obtain ⟨a, rfl, h⟩ := ref_ok h
 obtain ⟨n, x, e, h⟩ := h.get
 refine z0 ?_
 clear z0
 have q := rh.get e
 induction x with
 | dict y => obtain ⟨kv, ep, q, z⟩ := q; exact ⟨a, kv, ep, y, r, q, z, h⟩
 | fdict y => obtain ⟨kv, ep, q, z⟩ := q; exact ⟨a, kv, ep, y, r, (rh.fz _ _ q).1, z, h⟩
 | _ => exact False.elim h
theorem RK.at {y : List (Int × W)} : ∀ {kv}, RK F id y kv -> ∀ {k w}, lkG y k = some w -> ∃ v, lk kv k = some v /\ RV F w v := by
 induction y with
 | nil => exact fun {kv} O {k w} e => none_no e
 | cons p y ih => exact fun {kv} q {k w} => q.elim fun x q => q.elim fun r q => q.1 ▸ fun e => (Decidable.em (p.1 = k)).elim (fun z => ⟨x, if_pos z, Option.some.inj ((if_pos z).symm.trans e) ▸ q.2.1⟩) fun z => (ih q.2.2 ((if_neg z).symm.trans e)).elim fun y w => ⟨y, (if_neg z).trans w.1, w.2⟩
theorem RK.none {y : List (Int × W)} : ∀ {kv}, RK F id y kv -> ∀ {k}, lkG y k = .none -> lk kv k = .none := by
 induction y with
 | nil => exact fun {kv} q {k} O => (show _ = _ from q) ▸ rfl
 | cons p y ih => exact fun {kv} q {k} => q.elim fun x q => q.elim fun r q => q.1 ▸ fun e => (Decidable.em (p.1 = k)).elim (fun z => none_no (Eq.symm ((if_pos z).symm.trans e))) fun z => (if_neg z).trans (ih q.2.2 ((if_neg z).symm.trans e))
theorem RK.any {y : List (Int × W)} {k} : ∀ {kv}, RK F id y kv -> y.any (fun p => p.1 = k) = kv.any (fun p => p.1 = k) := by
 induction y with
 | nil => exact fun q => (show _ = _ from q) ▸ rfl
 | cons p y ih => exact fun q => q.elim fun x q => q.elim fun r q => q.1 ▸ congrArg (_ || ·) (ih q.2.2)
theorem RK.map {y : List (Int × W)} {k w v} (q : RV F w v) : ∀ {kv}, RK F id y kv -> RK F id (y.map fun p => if p.1 = k then (p.1, w) else p) (kv.map fun p => if p.1 = k then (p.1, v) else p) := by
 induction y with
 | nil => exact fun r => (show _ = _ from r) ▸ rfl
 | cons p y ih =>
  refine fun r => r.elim fun v' r => r.elim fun r' r => r.1 ▸ ?_
  rw [List.map_cons, List.map_cons]
  exact (Decidable.em (p.1 = k)).elim (fun z => if_pos z ▸ if_pos (show id p.1 = k from z) ▸ ⟨v, _, rfl, q, ih r.2.2⟩) fun z => if_neg z ▸ if_neg (show ¬ id p.1 = k from z) ▸ ⟨v', _, rfl, r.2.1, ih r.2.2⟩
theorem RK.app {y : List (Int × W)} {k w v} (q : RV F w v) : ∀ {kv}, RK F id y kv -> RK F id (y ++ [(k, w)]) (kv ++ [(k, v)]) := by
 induction y with
 | nil => exact fun {kv} r => by rw [show kv = [] from r]; exact ⟨v, [], rfl, q, rfl⟩
 | cons p y ih => exact fun r => r.elim fun v' r => r.elim fun r' r => r.1 ▸ ⟨v', _, rfl, r.2.1, ih r.2.2⟩
theorem RK.put {y : List (Int × W)} {kv} (r : RK F id y kv) {k w v} (q : RV F w v) : RK F id (putG y k w) (putI kv k v) := by
 unfold putG putI
 rw [r.any]
 split
 ·exact r.map q
 ·exact r.app q
variable {F0 : Fz} {K : W -> Hl -> Prop}
theorem newI (rh : RH F l H) (g : Fle F0 F) {x : List Int} (k : K (.il x) l) {c : Addr} (hc : H c = none) : PW F0 K (.ref c) (H.set c (.list (x.map .int))) :=
 .mk (w := .il x) (g.trans (Fz.ext rh hc _)) ⟨c, rfl, Hp.set_same _ _ _⟩ (rh.frz hc _) k
theorem newL (rh : RH F l H) (g : Fle F0 F) {x : List W} {vs} (r : RVs F x vs) (k : K (.lst x) l) {c : Addr} (hc : H c = none) : PW F0 K (.ref c) (H.set c (.list vs)) :=
 .mk (w := .lst x) (g.trans (Fz.ext rh hc _)) ⟨c, vs, rfl, Hp.set_same _ _ _, r.up (Fz.ext rh hc _)⟩ (rh.frz hc _) k
theorem newR (rh : RH F l H) (g : Fle F0 F) {x y z : Int} (k : K (.rng x y z) l) {c : Addr} (hc : H c = none) : PW F0 K (.ref c) (H.set c (.rng x y z)) :=
 .mk (w := .rng x y z) (g.trans (Fz.ext rh hc _)) ⟨c, rfl, Hp.set_same _ _ _⟩ (rh.frz hc _) k
theorem newD (rh : RH F l H) (g : Fle F0 F) {y : List (Int × W)} {kv ep} (r : RK F id y kv) {c : Addr} (k : K (.ref c) (.c c (.dict y) l)) (hc : H c = none) : PW F0 K (.ref c) (H.set c (.dict kv ep)) :=
 .mk (w := .ref c) g rfl (rh.new (x := .dict y) hc rfl ⟨kv, ep, Hp.set_same _ _ _, r⟩) k
theorem Mk.ok {ws : List W} {vs : List V} (h : Mk ws l K) (rh : RH F l H) (r : RVs F ws vs) (g : Fle F0 F) {c : Addr} (hc : H c = none) : PW F0 K (.ref c) (H.set c (.list vs)) := by
 induction h with
 | frz h => exact newL rh g r h hc
 | frI e h => subst e; rw [r.intsI]; exact newI rh g h hc
 | new h => exact .mk (w := .ref c) g rfl (rh.new (x := .list ws) hc rfl ⟨vs, Hp.set_same _ _ _, r⟩) (h c)
 | nwI e h => subst e; rw [r.intsI]; exact .mk (w := .ref c) g rfl (rh.new (x := .il _) hc rfl (Hp.set_same _ _ _)) (h c)
end
end
section
inductive PH (F : Fz) (K : Hl -> Prop) (H : Hp) : Prop
 | mk {F' l} (g : Fle F F') (h : RH F' l H) (k : K l)
section
variable {X : Wd} {n : Nat} {F0 F : Fz} {l : Hl} {H : Hp} {K : W -> Hl -> Prop} {a b : W} {va vb : V}
theorem RVs.ne {ws : List W} {vs} (r : RVs F ws vs) (h : ws ≠ []) : vs ≠ [] := fun e => by
 have := r.len; rw [e] at this; exact h (List.length_eq_zero_iff.mp this.symm)
theorem add_ok {k : W -> Prop} (h : addK a b l k) (ra : RV F a va) (rb : RV F b vb) (rh : RH F l H) (g : Fle F0 F) (hk : ∀ w, k w -> K w l) : WOp X n .Add va vb H (PW F0 K) := by
 have ls : rdI a l (fun x => rdI b l fun y => Stp (Sd (x.length + y.length <= 10000000) (k (.il (x ++ y))))) -> WOp X n .Add va vb H (PW F0 K) := fun h => by
  obtain ⟨p, x, rfl, e1, h⟩ := rdI_ok h ra rh
  obtain ⟨q, y, rfl, e2, h⟩ := rdI_ok h rb rh
  refine op_addL e1 e2 (by rw [List.length_map, List.length_map]; exact h.get.p) fun c hc => ?_
  rw [<- List.map_append]
  exact newI rh g (hk _ h.get.q) hc
 cases a with
 | int x =>
  obtain ⟨y, rfl, h⟩ := int_ok h
  rw [show va = _ from ra, show vb = _ from rb]
  exact op_add (.mk (w := .int _) g rfl rh (hk _ h))
 | tup x =>
  rcases tupK_ok h with ⟨y, rfl, h⟩ | h
  ·obtain ⟨xs, rfl, r1⟩ := ra
   obtain ⟨ys, rfl, r2⟩ := rb
   have q := h.get
   exact op_addT (r1.ne q.p.1.1) (r2.ne q.p.1.2) (by rw [r1.len, r2.len]; exact q.p.2) (.mk (w := .tup _) g ⟨_, rfl, r1.app r2⟩ rh (hk _ q.q))
  ·exact False.elim h
 | str x =>
  rcases strK_ok h with ⟨y, rfl, h⟩ | h
  ·rw [show va = _ from ra, show vb = _ from rb]
   exact op_addS h.get.p (.mk (w := .str _) g rfl rh (hk _ h.get.q))
  ·exact False.elim h
 | il x => exact ls h
 | ref x => exact ls h
 | _ => exact False.elim h
theorem co_ok {o : CmpOp} {x y : Int} {k : Bool -> Prop} (h : coK o x y k) (rh : RH F l H) (g : Fle F0 F) (hk : ∀ z, k z -> K (.bool z) l) : WCmp X n o (.int x) (.int y) H (PW F0 K) := by
 induction o with
 | Lt => exact cmp_lt (.mk (w := .bool _) g rfl rh (hk _ h))
 | LtE => exact cmp_le (.mk (w := .bool _) g rfl rh (hk _ h))
 | Gt => exact cmp_gt (.mk (w := .bool _) g rfl rh (hk _ h))
 | GtE => exact cmp_ge (.mk (w := .bool _) g rfl rh (hk _ h))
 | _ => exact False.elim h
theorem eq_ok {s : Bool} {k : Bool -> Prop} (h : eqK X s a b l k) (ra : RV F a va) (rb : RV F b vb) (rh : RH F l H) (g : Fle F0 F) (hk : ∀ z, k z -> K (.bool z) l) : WCmp X n (bif s then .Eq else .NotEq) va vb H (PW F0 K) := by
 rcases intK_ok h with ⟨x, rfl, h2⟩ | h2
 ·obtain ⟨y, rfl, h3⟩ := int_ok (v := b) (k := fun y => sg s (decide (x = y)) k) h2
  rw [show va = _ from ra, show vb = _ from rb]
  induction s with
  | true => exact cmp_eqI (.mk (w := .bool _) g rfl rh (hk _ h3))
  | false => exact cmp_neI (.mk (w := .bool _) g rfl rh (hk _ h3))
 rcases strK_ok h2 with ⟨x, rfl, h3⟩ | h3
 ·rcases strK_ok (show strK b (fun y => bif s then k (x == y) else False) False from h3) with ⟨y, rfl, h4⟩ | h4
  ·rw [show va = _ from ra, show vb = _ from rb]
   induction s with
   | true => exact cmp_eqS (.mk (w := .bool _) g rfl rh (hk _ h4))
   | false => exact False.elim h4
  ·exact False.elim h4
 ·obtain ⟨r, e, h4⟩ := h3.get
  exact e n F H va vb _ ra rb rh (.mk (w := .bool _) g rfl rh (hk _ h4))
theorem mem_ok {s : Bool} {i : Int} {k : Bool -> Prop} (h : rdD b l fun y => Stp (∃ r, (lkG y i).isSome = r /\ k r)) (rb : RV F b vb) (rh : RH F l H) (g : Fle F0 F) (hk : ∀ z, k z -> K (.bool (bif s then z else !z)) l) : WCmp X n (bif s then .In else .NotIn) (.int i) vb H (PW F0 K) := by
 refine cps fun G0 z0 => ?_
 obtain ⟨a, kv, ep, y, rfl, e, r, h⟩ := rdD_ok h rb rh
 obtain ⟨z, q, h⟩ := h.get
 refine z0 ?_
 clear z0
 have : (lk kv i).isSome = z := by
  cases w : lkG y i with
  | none => rw [r.none w, <- q, w]; rfl
  | some w' => obtain ⟨v, f, _⟩ := r.at w; rw [f, <- q, w]; rfl
 induction s with
 | true => exact cmp_in e (this ▸ .mk (w := .bool _) g rfl rh (hk _ h))
 | false => exact cmp_notIn e (this ▸ .mk (w := .bool _) g rfl rh (hk _ h))
theorem isn_ok (ra : RV F a va) (rh : RH F l H) (g : Fle F0 F) (h : K (.bool (isNone a)) l) : WCmp X n .Is va .none H (PW F0 K) := by
 refine cmp_isNone ?_
 have : ∀ {a : W} {va : V}, RV F a va -> (match va with | .none => true | _ => false) = isNone a := fun {a va} ra => by
  cases a with
  | tup => obtain ⟨_, rfl, _⟩ := ra; rfl
  | il => obtain ⟨_, rfl, _⟩ := ra; rfl
  | lst => obtain ⟨_, _, rfl, _⟩ := ra; rfl
  | rng => obtain ⟨_, rfl, _⟩ := ra; rfl
  | _ => cases ra; rfl
 exact (congrArg (fun z => PW F0 K (.bool z) H) (this ra)).mpr (.mk (w := .bool _) g rfl rh h)
theorem ix_ok {x : List W} {vs : List V} {i : Int} {k : W -> Prop} (h : ix x i k) (r : RVs F x vs) : 0 <= i /\ i < 2 ^ 63 /\ ∃ w v, vs[i.toNat]? = some v /\ RV F w v /\ k w := by
 refine cps fun G0 z0 => ?_
 obtain ⟨w, h0, h1, e, h⟩ := h
 obtain ⟨v, e2, q⟩ := r.at e
 refine z0 ?_
 clear z0
 exact ⟨h0, h1, w, v, e2, q, h⟩
theorem ixN_ix {α} {x : List α} : ∀ {i : Nat} {k : α -> Prop}, ixN x i k -> ∃ v, x[i]? = some v /\ k v := by
 induction x with
 | nil => exact fun h => h.elim
 | cons v r ih => exact fun {i k} => i.rec (fun h => ⟨v, rfl, h⟩) fun i O h => ih (i := i) h
theorem getI {x : List Int} {i : Nat} {z} (e : x[i]? = some z) : (x.map V.int)[i]? = some (.int z) := by rw [List.getElem?_map, e]; rfl
theorem kdI_ok {i : Int} {k : W -> Prop} (h : kdI a i l k) (ra : RV F a va) (rh : RH F l H) (g : Fle F0 F) (hk : ∀ w, k w -> K w l) : ∀ value slice, (∀ o i, subscripted slice false o i = operate [o, i] (getItem o i)) -> W2 X n (subscriptTail value slice) va (.int i) H (PW F0 K) := fun O O hs => by
 cases a with
 | tup x =>
  refine cps fun G0 z0 => ?_
  obtain ⟨vs, rfl, r⟩ := ra
  obtain ⟨h0, h1, w, v, e, q, h⟩ := ix_ok (Stp.get h) r
  refine z0 ?_
  clear z0
  exact wg_tup h0 e h1 (.mk g q rh (hk _ h)) hs
 | lst x =>
  obtain ⟨c, vs, rfl, f, r⟩ := ra
  obtain ⟨h0, h1, w, v, e, q, h⟩ := ix_ok (Stp.get h) r
  exact wg_list (rh.fz _ _ f).1 h0 e h1 (.mk g q rh (hk _ h)) hs
 | il x =>
  obtain ⟨c, rfl, f⟩ := ra
  obtain ⟨z, h0, h1, e, h⟩ := Stp.get h
  exact wg_list (rh.fz _ _ f).1 h0 (getI e) h1 (.mk (w := .int z) g rfl rh (hk _ h)) hs
 | bytes x =>
  rw [show va = _ from ra]
  have q := Stp.get h
  exact wg_bytes q.p.1.1 q.p.1.2 q.p.2 (.mk (w := .int _) g rfl rh (hk _ q.q)) hs
 | str x =>
  rw [show va = _ from ra]
  obtain ⟨c, h0, h1, e, h⟩ := Stp.get h
  exact wg_str h0 e h1 (.mk (w := .str _) g rfl rh (hk _ h)) hs
 | ref c =>
  rw [show va = _ from ra]
  obtain ⟨m, x, e, h⟩ := Stp.get h
  have q := rh.get e
  induction x with
  | list y =>
   obtain ⟨vs, q, r⟩ := q
   obtain ⟨h0, h1, w, v, e, q', h⟩ := ix_ok (Stp.get h) r
   exact wg_list q h0 e h1 (.mk g q' rh (hk _ h)) hs
  | frz y =>
   obtain ⟨vs, q, r⟩ := q
   obtain ⟨h0, h1, w, v, e, q', h⟩ := ix_ok (Stp.get h) r
   exact wg_list (rh.fz _ _ q).1 h0 e h1 (.mk g q' rh (hk _ h)) hs
  | il y =>
   obtain ⟨z, h0, h1, e, h⟩ := Stp.get h
   exact wg_list q h0 (getI e) h1 (.mk (w := .int z) g rfl rh (hk _ h)) hs
  | dict y =>
   obtain ⟨kv, ep, q, r⟩ := q
   obtain ⟨w, e, h⟩ := Stp.get h
   obtain ⟨v, e, q'⟩ := r.at e
   exact wg_dict q e (.mk g q' rh (hk _ h)) hs
  | fdict y =>
   obtain ⟨kv, ep, q, r⟩ := q
   obtain ⟨w, e, h⟩ := Stp.get h
   obtain ⟨v, e, q'⟩ := r.at e
   exact wg_dict (rh.fz _ _ q).1 e (.mk g q' rh (hk _ h)) hs
  | _ => exact False.elim h
 | _ => exact False.elim h
theorem ixN_up {α} {x : List α} {i : Nat} {k : α -> Prop} (hi : (i : Int) < 2 ^ 63) (h : ixN x i k) : ix x i k := (ixN_ix h).elim fun v q => ⟨v, Int.natCast_nonneg i, hi, q.1, q.2⟩
theorem kdN_up {i : Nat} {k : W -> Prop} (hi : (i : Int) < 2 ^ 63) (h : kdN a i l k) : kdI a i l k := by
 cases a with
 | tup x => exact ⟨ixN_up hi h⟩
 | lst x => exact ⟨ixN_up hi h⟩
 | il x => exact ⟨ixN_up hi h⟩
 | ref c =>
  obtain ⟨m, x, e, h⟩ := Stp.get h
  refine ⟨m, x, e, ?_⟩
  induction x with
  | list y => exact ⟨ixN_up hi h⟩
  | frz y => exact ⟨ixN_up hi h⟩
  | il y => exact ⟨ixN_up hi h⟩
  | dict y => exact h
  | fdict y => exact h
  | _ => exact False.elim h
 | _ => exact False.elim h
theorem set_ok {i : Int} {w : W} {vw : V} {k : Hl -> Prop} (h : stI' a w i l k) (ra : RV F a va) (rw' : RV F w vw) (rh : RH F l H) (g : Fle F0 F) : WSI X n va (.int i) vw H (PH F0 k) := by
 obtain ⟨c, rfl, h⟩ := ref_ok h
 rw [show va = _ from ra]
 obtain ⟨m, x, e, h⟩ := h.get
 have q := rh.get e
 induction x with
 | list y =>
  obtain ⟨vs, q, r⟩ := q
  have h := Stp.get h
  exact si_list q h.p.1.1 (by rw [r.len]; exact h.p.1.2) (by rw [r.len]; exact h.p.2) ⟨g, rh.upd (y := .list (y.set i.toNat w)) e (.head _) rfl ⟨_, Hp.set_same _ _ _, r.set rw'⟩, h.q⟩
 | il y =>
  obtain ⟨z, rfl, h⟩ := int_ok h
  have h := Stp.get h
  refine si_list q h.p.1.1 (by rw [List.length_map]; exact h.p.1.2) (by rw [List.length_map]; exact h.p.2) ⟨g, rh.upd (y := .il (y.set i.toNat z)) e (.head _) rfl ?_, h.q⟩
  rw [show vw = _ from rw', <- List.map_set]
  exact Hp.set_same _ _ _
 | dict y =>
  obtain ⟨kv, ep, q, r⟩ := q
  have h := Stp.get h
  exact si_dict q (by rw [r.len]; exact h.p) fun ep' => ⟨g, rh.upd (y := .dict (putG y i w)) e (.head _) rfl ⟨_, ep', Hp.set_same _ _ _, r.put rw'⟩, h.q⟩
 | _ => exact False.elim h
structure Gd (X : Wd) : Prop where
 att : ∀ C i, isC C = true -> okX C i = true -> i < 31 -> attrOK X.K C (nmA i) = true /\ setOK X.K C (nmA i) = true
 met : ∀ m, m < 8 -> methOK X.K (mfn m).1 (mnm.getD m "?") (mfn m).2 = true
theorem nm_out {y : Nat} (h : ¬ y < 31) : nmA y = "?" := by
 unfold nmA
 rw [List.getD_eq_getElem?_getD, List.getElem?_eq_none (Nat.not_lt.mp h)]; rfl
theorem nm_inj : ∀ x, x < 31 -> ∀ y, nmA y = nmA x -> y = x := by
 have h : ∀ x, x < 31 -> (∀ y, y < 31 -> nmA y = nmA x -> y = x) /\ (("?" : Str) ≠ nmA x) := by decide +kernel
 intro x hx y e
 by_cases hy : y < 31
 ·exact (h x hx).1 y hy e
 ·exact ((h x hx).2 ((nm_out hy).symm.trans e)).elim
theorem nm_met : ∀ m, m < 8 -> ∀ y, y ≠ mat m -> nmA y ≠ mnm.getD m "?" := by
 have h : ∀ m, m < 8 -> (∀ y, y < 31 -> y ≠ mat m -> nmA y ≠ mnm.getD m "?") /\ (("?" : Str) ≠ mnm.getD m "?") := by decide +kernel
 intro x hx y hm e
 by_cases hy : y < 31
 ·exact (h x hx).1 y hy hm e
 ·exact (h x hx).2 ((nm_out hy).symm.trans e)
theorem lkN_ok {i : Nat} (hi : i < 31) {k : W -> Prop} {y : List (Nat × W)} : ∀ {kv}, lkN y i k -> RK F nmA y kv -> ∃ w v, lkA kv (nmA i) = some v /\ RV F w v /\ k w := by
 induction y with
 | nil => exact fun h => h.elim
 | cons p y ih =>
  refine fun h q => q.elim fun v q => q.elim fun r' q => q.1 ▸ ?_
  rw [lkN_c] at h
  rw [lkA_c]
  cases z : Nat.beq p.1 i with
  | true => rw [z] at h; exact ⟨_, v, if_pos (congrArg nmA (Nat.eq_of_beq_eq_true z)), q.2.1, h⟩
  | false => rw [z] at h; rw [if_neg (fun q => Nat.ne_of_beq_eq_false z (nm_inj i hi _ q))]; exact ih h q.2.2
theorem ptN_ok {i : Nat} (hi : i < 31) {w : W} {vw : V} (q : RV F w vw) {y : List (Nat × W)} : ∀ {kv} {k : List (Nat × W) -> Prop}, ptN y i w k -> RK F nmA y kv -> ∃ y', RK F nmA y' (putA kv (nmA i) vw) /\ k y' := by
 induction y with
 | nil => exact fun h e => (show _ = _ from e) ▸ ⟨[(i, w)], ⟨vw, [], rfl, q, rfl⟩, h⟩
 | cons p y ih =>
  refine fun {kv k} h b => b.elim fun v b => b.elim fun r' b => b.1 ▸ ?_
  rw [ptN_c] at h
  rw [putA_c]
  cases z : Nat.beq p.1 i with
  | true => rw [z] at h; rw [if_pos (congrArg nmA (Nat.eq_of_beq_eq_true z))]; exact ⟨(p.1, w) :: y, ⟨vw, _, rfl, q, b.2.2⟩, h⟩
  | false => rw [z] at h; rw [if_neg (fun q => Nat.ne_of_beq_eq_false z (nm_inj i hi _ q))]; exact (ih h b.2.2).elim fun y' r => ⟨p :: y', ⟨v, _, rfl, b.2.1, r.1⟩, r.2⟩
theorem lkA_miss {m : Nat} (hm : m < 8) {y : List (Nat × W)} : ∀ {kv}, noK (mat m) y = true -> RK F nmA y kv -> lkA kv (mnm.getD m "?") = none := by
 induction y with
 | nil => exact fun O e => (show _ = _ from e) ▸ rfl
 | cons p y ih => exact fun h q => q.elim fun v q => q.elim fun r' q => q.1 ▸ (if_neg (nm_met m hm _ (Nat.ne_of_beq_eq_false (Bool.not_eq_true' _ ▸ ((Bool.and_eq_true _ _).mp h).1)))).trans (ih ((Bool.and_eq_true _ _).mp h).2 q.2.2)
end
end
section
theorem RVs.one {F : Fz} {w : W} {vs} (r : RVs F [w] vs) : ∃ v, vs = [v] /\ RV F w v := by
 obtain ⟨v, _, rfl, a, rfl⟩ := r; exact ⟨v, rfl, a⟩
theorem RVs.dou {F : Fz} {w x : W} {vs} (r : RVs F [w, x] vs) : ∃ v u, vs = [v, u] /\ RV F w v /\ RV F x u := by
 obtain ⟨v, _, rfl, a, u, _, rfl, b, rfl⟩ := r; exact ⟨v, u, rfl, a, b⟩
theorem RVs.toT {F : Fz} {x : List Int} {w : List W} {vs} (e : w = x.map .int) (r : RVs F w vs) : vs = x.map .int := by subst e; exact r.intsI
theorem RK.keyI {F : Fz} {y : List (Int × W)} {kv} (r : RK F id y kv) : kv.map (·.1) = y.map (·.1) := r.keys
section
variable {X : Wd} {n : Nat} {F0 F : Fz} {l : Hl} {H : Hp} {K : W -> Hl -> Prop} {w : W} {v : V}
theorem len_ok (h : biK .len [w] l K) (r : RV F w v) (rh : RH F l H) (g : Fle F0 F) : WC X n (.builtin "len") [v] H (PW F0 K) := by
 have ls : rdL w l (fun y => Stp (Sd (y.length <= 10000000) (K (.int y.length) l))) -> WC X n (.builtin "len") [v] H (PW F0 K) := fun h => by
  rcases rdL_ok h r rh with ⟨a, vs, y, rfl, e, q, h⟩ | ⟨vs, y, rfl, q, h⟩
  ·exact wc_lenL e (by rw [q.len]; exact h.get.p) (.mk (w := .int _) g (by rw [q.len]; rfl) rh h.get.q)
  ·exact wc_lenT (by rw [q.len]; exact h.get.p) (.mk (w := .int _) g (by rw [q.len]; rfl) rh h.get.q)
 cases w with
 | bytes b => rw [show v = _ from r]; exact wc_lenB (Stp.get h).p (.mk (w := .int _) g rfl rh (Stp.get h).q)
 | ref a =>
  rw [show v = _ from r]
  obtain ⟨m, x, e, h⟩ := Stp.get h
  have q := rh.get e
  induction x with
  | il y => exact wc_lenL q (by rw [List.length_map]; exact (Stp.get h).p) (.mk (w := .int _) g (by rw [List.length_map]; rfl) rh (Stp.get h).q)
  | list y => obtain ⟨vs, q, z⟩ := q; exact wc_lenL q (by rw [z.len]; exact (Stp.get h).p) (.mk (w := .int _) g (by rw [z.len]; rfl) rh (Stp.get h).q)
  | frz y => obtain ⟨vs, q, z⟩ := q; exact wc_lenL (rh.fz _ _ q).1 (by rw [z.len]; exact (Stp.get h).p) (.mk (w := .int _) g (by rw [z.len]; rfl) rh (Stp.get h).q)
  | dict y => obtain ⟨kv, ep, q, z⟩ := q; exact wc_lenD q (by rw [z.len]; exact (Stp.get h).p) (.mk (w := .int _) g (by rw [z.len]; rfl) rh (Stp.get h).q)
  | fdict y => obtain ⟨kv, ep, q, z⟩ := q; exact wc_lenD (rh.fz _ _ q).1 (by rw [z.len]; exact (Stp.get h).p) (.mk (w := .int _) g (by rw [z.len]; rfl) rh (Stp.get h).q)
  | obj => exact False.elim h
 | tup x => exact ls h
 | il x => exact ls h
 | lst x => exact ls h
 | _ => exact False.elim h
theorem list_ok (h : biK .list [w] l K) (r : RV F w v) (rh : RH F l H) (g : Fle F0 F) : WC X n (.type "list") [v] H (PW F0 K) := by
 have ls : rdL w l (fun y => Stp (Sd (y.length <= 10000000) (Stp (Mk y l K)))) -> WC X n (.type "list") [v] H (PW F0 K) := fun h => by
  rcases rdL_ok h r rh with ⟨a, vs, y, rfl, e, q, h⟩ | ⟨vs, y, rfl, q, h⟩
  ·exact wc_listL e (by rw [q.len]; exact h.get.p) fun c hc => h.get.q.get.ok rh q g hc
  ·exact wc_listT (by rw [q.len]; exact h.get.p) fun c hc => h.get.q.get.ok rh q g hc
 cases w with
 | bytes b => rw [show v = _ from r]; exact wc_listB (Stp.get h).p fun c hc => newI rh g (Stp.get h).q hc
 | tup x => exact ls h
 | il x => exact ls h
 | lst x => exact ls h
 | ref x => exact ls h
 | _ => exact False.elim h
theorem ext_ok {a : Addr} {k : Hl -> Prop} (h : rdI w l fun x => Stp (Acc l a (exC x fun n y => k (l.set n y)))) (r : RV F w v) (rh : RH F l H) (g : Fle F0 F) (hk : ∀ l, k l -> K .none l) : WC X n (.builtin "list.extend") [.ref a, v] H (PW F0 K) := by
 refine cps fun G0 z0 => ?_
 obtain ⟨b, x, rfl, e2, h⟩ := rdI_ok h r rh
 obtain ⟨m, y, e, h⟩ := h.get
 refine z0 ?_
 clear z0
 induction y with
 | il z =>
  refine wc_extend (rh.get e) e2 (by rw [List.length_map, List.length_map]; exact (Stp.get h).p) (.mk (w := .none) g rfl (rh.upd (y := .il (z ++ x)) e (.head _) rfl ?_) (hk _ (Stp.get h).q))
  rw [<- List.map_append]; exact Hp.set_same _ _ _
 | _ => exact False.elim h
theorem app_ok {a : Addr} {k : Hl -> Prop} (h : Acc l a (apC w fun n y => k (l.set n y))) (r : RV F w v) (rh : RH F l H) (g : Fle F0 F) (hk : ∀ l, k l -> K .none l) : WC X n (.builtin "list.append") [.ref a, v] H (PW F0 K) := by
 obtain ⟨m, y, e, h⟩ := h
 have q := rh.get e
 induction y with
 | list z =>
  refine cps fun G0 z0 => ?_
  obtain ⟨vs, q, z'⟩ := q
  refine z0 ?_
  clear z0
  exact wc_append q (by rw [z'.len]; exact (Stp.get h).p) (.mk (w := .none) g rfl (rh.upd (y := .list (z ++ [w])) e (.head _) rfl ⟨_, Hp.set_same _ _ _, z'.app ⟨v, [], rfl, r, rfl⟩⟩) (hk _ (Stp.get h).q))
 | il z =>
  obtain ⟨i, rfl, h⟩ := int_ok h
  refine wc_append q (by rw [List.length_map]; exact (Stp.get h).p) (.mk (w := .none) g rfl (rh.upd (y := .il (z ++ [i])) e (.head _) rfl ?_) (hk _ (Stp.get h).q))
  rw [show v = _ from r]
  show _ = some (Cell.list _)
  rw [List.map_append]; exact Hp.set_same _ _ _
 | _ => exact False.elim h
theorem RVs.last {F : Fz} {r : List W} {w : W} : ∀ {vs}, RVs F (r ++ [w]) vs -> ∃ r' v, vs = r' ++ [v] /\ RVs F r r' /\ RV F w v := by
 induction r with
 | nil => exact fun q => q.elim fun x q => q.elim fun r q => ⟨[], x, q.1.trans (congrArg (x :: ·) q.2.2), rfl, q.2.1⟩
 | cons u r ih => exact fun q => q.elim fun x q => q.elim fun r q => (ih q.2.2).elim fun ys z => z.elim fun y z => ⟨x :: ys, y, q.1.trans (congrArg (x :: ·) z.1), ⟨x, ys, rfl, q.2.1, z.2.1⟩, z.2.2⟩
theorem pop_ok {a : Addr} {k : W -> Hl -> Prop} (h : Acc l a (ppC fun v n y => k v (l.set n y))) (rh : RH F l H) (g : Fle F0 F) (hk : ∀ v l, k v l -> K v l) : WC X n (.builtin "list.pop") [.ref a] H (PW F0 K) := by
 obtain ⟨m, y, e, h⟩ := h
 induction y with
 | list z =>
  refine cps fun G0 z0 => ?_
  obtain ⟨vs, q, z'⟩ := rh.get e
  obtain ⟨r, u, rfl, hl, h⟩ := Stp.get h
  obtain ⟨r', v, rfl, r1, r2⟩ := RVs.last z'
  refine z0 ?_
  clear z0
  exact wc_pop q (by rw [r1.len]; exact hl) (.mk (w := u) g r2 (rh.upd (y := .list r) e (.head _) rfl ⟨_, Hp.set_same _ _ _, r1⟩) (hk _ _ h))
 | _ => exact False.elim h
theorem get1_ok {i : Int} {k : W -> Prop} (h : rdD w l fun y => Stp (∃ v, (lkG y i).getD .none = v /\ k v)) (r : RV F w v) (rh : RH F l H) (g : Fle F0 F) (hk : ∀ v, k v -> K v l) : WC X n (.builtin "dict.get") [v, .int i] H (PW F0 K) := by
 refine cps fun G0 z0 => ?_
 obtain ⟨a, kv, ep, y, rfl, e, q, h⟩ := rdD_ok h r rh
 obtain ⟨u, eu, h⟩ := h.get
 refine z0 ?_
 clear z0
 refine wc_get1 e (.mk (w := u) g ?_ rh (hk _ h))
 cases z : lkG y i with
 | none => rw [z] at eu; rw [q.none z, <- eu]; rfl
 | some w' => rw [z] at eu; obtain ⟨v', f, q'⟩ := q.at z; rw [f, <- eu]; exact q'
theorem get2_ok {i : Int} {d : W} {vd : V} {k : W -> Prop} (h : rdD w l fun y => Stp (∃ v, (lkG y i).getD d = v /\ k v)) (r : RV F w v) (rd : RV F d vd) (rh : RH F l H) (g : Fle F0 F) (hk : ∀ v, k v -> K v l) : WC X n (.builtin "dict.get") [v, .int i, vd] H (PW F0 K) := by
 refine cps fun G0 z0 => ?_
 obtain ⟨a, kv, ep, y, rfl, e, q, h⟩ := rdD_ok h r rh
 obtain ⟨u, eu, h⟩ := h.get
 refine z0 ?_
 clear z0
 refine wc_get2 e (.mk (w := u) g ?_ rh (hk _ h))
 cases z : lkG y i with
 | none => rw [z] at eu; rw [q.none z, <- eu]; exact rd
 | some w' => rw [z] at eu; obtain ⟨v', f, q'⟩ := q.at z; rw [f, <- eu]; exact q'
theorem sol1 {ws : List W} {vs : List V} {k : W -> Prop} (h : sol ws k) (r : RVs F ws vs) : ∃ w v, vs = [v] /\ RV F w v /\ k w := by
 refine cps fun G0 z0 => ?_
 obtain ⟨w, rfl, h2⟩ := sol_ok h
 obtain ⟨v, e, r2⟩ := r.one
 refine z0 ?_
 clear z0
 exact ⟨w, v, e, r2, h2⟩
theorem int1 {k : Int -> Prop} (h : intK w k False) (r : RV F w v) : ∃ i, v = .int i /\ k i := by
 obtain ⟨i, rfl, h2⟩ := int_ok h
 exact ⟨i, r, h2⟩
theorem il1 {k : List Int -> Prop} (h : ilK w k False) (r : RV F w v) (rh : RH F l H) : ∃ a x, v = .ref a /\ H a = some (.list (x.map .int)) /\ k x := by
 rcases ilK_ok h with ⟨x, rfl, h2⟩ | h2
 ·obtain ⟨a, e, q⟩ := r; exact ⟨a, x, e, (rh.fz _ _ q).1, h2⟩
 ·exact False.elim h2
theorem tup1 {k : List W -> Prop} (h : tupK w k False) (r : RV F w v) : ∃ x vs, v = .tup vs /\ RVs F x vs /\ k x := by
 rcases tupK_ok h with ⟨x, rfl, h2⟩ | h2
 ·obtain ⟨vs, e, q⟩ := r; exact ⟨x, vs, e, q, h2⟩
 ·exact False.elim h2
theorem str1 {k : Str -> Prop} (h : strK w k False) (r : RV F w v) : ∃ x, v = .str x /\ k x := by
 rcases strK_ok h with ⟨x, rfl, h2⟩ | h2
 ·exact ⟨x, r, h2⟩
 ·exact False.elim h2
theorem dou1 {ws : List W} {vs : List V} {k : Int -> Int -> Prop} {d : Prop} (h : dous ws (fun a b => intK a (fun x => intK b (fun y => k x y) False) False) d) (r : RVs F ws vs) : (∃ x y, vs = [.int x, .int y] /\ k x y) \/ d := by
 rcases dous_ok h with ⟨a, b, rfl, h2⟩ | h2
 ·refine cps fun G0 z0 => ?_
  obtain ⟨u, v, e, r1, r2⟩ := r.dou
  obtain ⟨x, rfl, h3⟩ := int1 h2 r1
  obtain ⟨y, rfl, h4⟩ := int1 h3 r2
  refine z0 ?_
  clear z0
  exact .inl ⟨x, y, e, h4⟩
 ·exact .inr h2
theorem bi_ok {x : Bi} {ws : List W} {vs : List V} (h : biK x ws l K) (r : RVs F ws vs) (rh : RH F l H) (g : Fle F0 F) : WC X n x.v vs H (PW F0 K) := by
 induction x with
 | len => obtain ⟨w, v, rfl, r, h⟩ := sol1 h r; exact len_ok h r rh g
 | max =>
  rcases dou1 h r with ⟨x, y, rfl, h⟩ | h
  ·exact wc_max2 (.mk (w := .int _) g rfl rh h)
  ·obtain ⟨w, v, rfl, r, h⟩ := sol1 h r
   obtain ⟨a, x, rfl, e, h⟩ := il1 h r rh
   exact wc_maxL e h.get.p fun M h1 h2 => .mk (w := .int _) g rfl rh (h.get.q M ⟨h1, h2⟩)
 | min =>
  rcases dou1 h r with ⟨x, y, rfl, h⟩ | h
  ·exact wc_min2 (.mk (w := .int _) g rfl rh h)
  ·obtain ⟨w, v, rfl, r, h⟩ := sol1 h r
   obtain ⟨x, vs, rfl, e, h⟩ := tup1 h r
   cases z : toI x with
   | none => rw [z] at h; exact False.elim h
   | some ns =>
    rw [z] at h
    rw [RVs.toT (toI_ok z) e]
    exact wc_minT h.get.p fun M h1 h2 => .mk (w := .int _) g rfl rh (h.get.q M ⟨h1, h2⟩)
 | abs => obtain ⟨w, v, rfl, r, h⟩ := sol1 h r; obtain ⟨x, rfl, h⟩ := int1 h r; exact wc_abs (.mk (w := .int _) g rfl rh h)
 | sum => obtain ⟨w, v, rfl, r, h⟩ := sol1 h r; obtain ⟨a, x, rfl, e, h⟩ := il1 h r rh; exact wc_sumL e fun i => .mk (w := .int _) g rfl rh (h.get i)
 | sorted =>
  obtain ⟨w, v, rfl, r, h⟩ := sol1 h r
  obtain ⟨a, kv, ep, y, rfl, e, q, h⟩ := rdD_ok h r rh
  exact wc_sortD e (by rw [q.len]; exact h.get.p) fun c ns hc h1 h2 => newI rh g (h.get.q ns ⟨q.keyI ▸ h1, h2⟩) hc
 | ord => obtain ⟨w, v, rfl, r, h⟩ := sol1 h r; obtain ⟨x, rfl, h⟩ := str1 h r; exact wc_ord h.get.p (.mk (w := .int _) g rfl rh h.get.q)
 | int => obtain ⟨w, v, rfl, r, h⟩ := sol1 h r; obtain ⟨x, rfl, h⟩ := int1 h r; exact wc_int (.mk (w := .int _) g rfl rh h)
 | tuple =>
  obtain ⟨w, v, rfl, r, h⟩ := sol1 h r
  rcases rdL_ok h r rh with ⟨a, vs, y, rfl, e, q, h⟩ | ⟨vs, y, rfl, q, h⟩
  ·exact wc_tupL e (by rw [q.len]; exact h.get.p) (.mk (w := .tup y) g ⟨vs, rfl, q⟩ rh h.get.q)
  ·exact wc_tupT (.mk (w := .tup y) g ⟨vs, rfl, q⟩ rh h.get.q)
 | list => obtain ⟨w, v, rfl, r, h⟩ := sol1 h r; exact list_ok h r rh g
 | dict =>
  obtain ⟨w, v, rfl, r, h⟩ := sol1 h r
  obtain ⟨a, kv, ep, y, rfl, e, q, h⟩ := rdD_ok h r rh
  exact wc_dictD e (by rw [q.len]; exact h.get.p) fun c ep' hc => newD rh g q (h.get.q c) hc
 | bytes =>
  obtain ⟨w, v, rfl, r, h⟩ := sol1 h r
  obtain ⟨a, y, rfl, e, h⟩ := rdI_ok h r rh
  exact wc_bytes e h.get.p.1 h.get.p.2 (.mk (w := .bytes _) g rfl rh h.get.q)
 | range =>
  rcases dou1 h r with ⟨x, y, rfl, h⟩ | h
  ·exact wc_range2 fun c hc => newR rh g h hc
  ·cases ws with
   | nil => exact False.elim h
   | cons a r' =>
    obtain ⟨u, _, rfl, r1, r2⟩ := r
    cases r' with
    | nil =>
     obtain ⟨x, rfl, h⟩ := int1 h r1
     rw [show _ = [] from r2]
     exact wc_range1 fun c hc => newR rh g h hc
    | cons b r' =>
     obtain ⟨v, _, rfl, r2, r3⟩ := r2
     obtain ⟨w, q, rfl, r3, h⟩ := sol1 h r3
     obtain ⟨x, rfl, h⟩ := int1 h r1
     obtain ⟨y, rfl, h⟩ := int1 h r2
     obtain ⟨z, rfl, h⟩ := int1 h r3
     rw [h.get.p]
     exact wc_range3 (by decide) (PyProof.noPylong_small (by decide)) fun c hc => newR rh g h.get.q hc
end
end
section
noncomputable def HE (X : Wd) (κ : Kx) (E : Expr -> Cd -> Cd) : Prop := ∀ {Q e c st L C l F fr H}, ru X κ Q (E e c) st L C l -> Rl F L C fr -> RH F l H -> WE X κ.n κ.fi κ.env fr e H (PW F fun w l' => ru X κ Q c (w :: st) L C l')
noncomputable def HT (X : Wd) (κ : Kx) (T : Expr -> Cd -> Cd -> Cd) : Prop := ∀ {Q e a b st L C l F fr H}, ru X κ Q (T e a b) st L C l -> Rl F L C fr -> RH F l H -> WT X κ.n κ.fi κ.env fr e H (PT F fun x l' => (x = true -> ru X κ Q a st L C l') /\ (x = false -> ru X κ Q b st L C l'))
theorem mg_ok {X : Wd} {x : Str} {v : Value} (e : gval X.K x = some v) : GlobV X x v := by
 unfold gval at e
 cases h : nsIn X.K mainGlobals x with
 | none => rw [h] at e; cases e
 | some o =>
  rw [h] at e
  induction o with
  | some w => cases e; exact .inl (mg_of X.hK X.hg h)
  | none =>
   cases hn : x == gval.dnm with
   | true => simp only [hn] at e; cases e
   | false => simp only [hn] at e; exact .inr ⟨mg_none_of X.hK X.hg h, (X.bi x (by simpa [gval.dnm] using hn)).trans e⟩
theorem gvs_ok {X : Wd} {l : List Str} : ∀ p ∈ gvs X.K l, GlobV X p.1 p.2 := by
 intro p hp
 obtain ⟨x, _, e⟩ := List.mem_filterMap.mp hp
 obtain ⟨v, h, rfl⟩ := Option.map_eq_some_iff.mp e
 exact mg_ok h
theorem idx_ok {x : Str} {l : List Str} : ∀ {i}, idx x l = some i -> l[i]? = some x := by
 induction l with
 | nil => exact fun h => none_no h
 | cons y r ih =>
  intro i h
  rw [idx_c] at h
  cases q : y == x with
  | true => rw [q] at h; exact Option.some.inj h ▸ congrArg some (eq_of_beq q)
  | false => rw [q] at h; exact (Option.map_eq_some_iff.mp h).elim fun j e => e.2 ▸ ih e.1
theorem GetG.of {x v} {l : List (Str × Value)} (h : l.lookup x = some v) : GetG l x v := by
 have m := mem_of_lookup h
 clear h
 induction l with
 | nil => cases m
 | cons p r ih => cases m with
  | head => exact .here
  | tail _ m => exact .next (ih m)
theorem we_globK {X : Wd} {n : Nat} {fi : FI} {env : Env} {F : Frame} {H : Hp} {Q : V -> Hp -> Prop} {x pos v V} (g : GetG fi.G x v) (e : ∀ h : Heap, X.K.In h -> VR h V v) (h : Q V H) : WE X n fi env F (.Name x pos) H Q := fun E A P s r S f =>
 glob_tree g E S (.mk S (e _ S.K) (Grow.refl _) h)
theorem intsV_ok {h : Heap} {xs : List Value} : ∀ {ns}, intsV xs = some ns -> VRs h (ns.map .int) xs := by
 induction xs with
 | nil => exact fun e => Option.some.inj e ▸ rfl
 | cons v r ih =>
  induction v with
  | int i t => exact fun e => (Option.map_eq_some_iff.mp e).elim fun q e => e.2 ▸ ⟨_, _, rfl, ⟨t, rfl⟩, ih e.1⟩
  | _ => exact fun e => none_no e
theorem tupO'_ok {o : Obj} {ns} (e : tupO' o = some ns) : ∃ xs m, o = tupO xs m /\ intsV xs = some ns := by
 obtain ⟨c, d, x, s⟩ := o
 cases c with
 | type t =>
  cases d with
  | some => exact none_no e
  | none =>
   cases x with
   | seq xs m =>
    obtain ⟨s⟩ := s
    cases s with
    | cons => exact none_no e
    | nil =>
     have e : (bif t == "tuple" then intsV xs.toList else none) = some ns := e
     cases q : t == "tuple" with
     | true => rw [q] at e; rw [eq_of_beq q]; exact ⟨xs.toList, m, by rw [tupO, Array.toArray_toList], e⟩
     | false => rw [q] at e; exact none_no e
   | _ => exact none_no e
 | _ => exact none_no e
section
variable {X : Wd} {κ : Kx} {Q : Qt} {c d : Cd} {st : List W} {L C : LW} {l : Hl} {F : Fz} {fr : Frame} {H : Hp}
theorem konst_ok {k : Const} {a p} (h : ru X κ Q (konst k c) st L C l) (rh : RH F l H) : WE X κ.n κ.fi κ.env fr (.Constant k a p) H (PW F fun w l' => ru X κ Q c (w :: st) L C l') := by
 induction k with
 | int i => exact we_int (.mk (w := .int i) .rfl rfl rh h)
 | str i => exact we_str (.mk (w := .str i) .rfl rfl rh h)
 | bool b => exact we_bool (.mk (w := .bool b) .rfl rfl rh h)
 | none => exact we_none (.mk (w := .none) .rfl rfl rh h)
 | _ => exact False.elim h
theorem name_ok {x : Str} {p} (h : ru X κ Q (name X.K κ.fi x c) st L C l) (rl : Rl F L C fr) (rh : RH F l H) : WE X κ.n κ.fi κ.env fr (.Name x p) H (PW F fun w l' => ru X κ Q c (w :: st) L C l') := by
 refine we_fr fun nL nC => ?_
 unfold name at h
 cases e : idx x κ.fi.L with
 | some i =>
  rw [e] at h
  refine cps fun G0 z0 => ?_
  obtain ⟨w, v, g, r, q⟩ := getL_ok h rl.l (by rw [nL]; exact idx_ok e)
  refine z0 ?_
  clear z0
  exact we_loc g (.mk .rfl r rh q)
 | none =>
  rw [e] at h
  dsimp only at h
  cases e2 : idx x (κ.fi.C ++ κ.fi.R) with
  | some i =>
   rw [e2] at h
   obtain ⟨w, v, g, r, q⟩ := getL_ok h rl.c (by rw [nC]; exact idx_ok e2)
   exact we_cel g (.mk .rfl r rh q)
  | none =>
   rw [e2] at h
   obtain ⟨v, e3, h⟩ := opt_ok h
   induction v with
   | int i t => exact we_globI (.of e3) (.mk (w := .int i) .rfl rfl rh h)
   | str s t => exact we_glob (V := .str s) (.of e3) (fun O => ⟨_, rfl⟩) (.mk (w := .str s) .rfl rfl rh h)
   | ref a =>
    refine cps fun G0 z0 => ?_
    obtain ⟨ns, e4, h⟩ := opt_ok h
    obtain ⟨o, e5, e6⟩ := Option.bind_eq_some_iff.mp e4
    obtain ⟨xs, m, rfl, e7⟩ := tupO'_ok e6
    refine z0 ?_
    clear z0
    refine we_globK (V := .tup (ns.map .int)) (.of e3) (fun hp k => ⟨a, xs, m, rfl, k _ _ e5, intsV_ok e7⟩) (.mk (w := .tup (ns.map .int)) .rfl ⟨_, rfl, RVs.ints ns⟩ rh h)
   | _ => exact False.elim h
theorem lit_ok {e : Expr} {i : Int} (h : lit e = some i) : ∃ k p, e = .Constant (.int i) k p := by
 have k := ev_ok e
 revert h k
 unfold lit
 generalize ev e = v
 intro h k
 cases v with
 | int => cases h; exact k
 | _ => exact none_no h
theorem star_cons {e : Expr} (h : noStar e = true) (es : List Expr) (env : Env) : starEach (e :: es) env = (false, eval e env) :: starEach es env := by
 cases e with
 | Starred => cases h
 | _ => rfl
theorem star_any {env : Env} {pos : Pos} {es : List Expr} : es.all noStar = true -> (backTo pos (starEach es env)).any (·.1) = false := by
 induction es with
 | nil => exact fun O => rfl
 | cons e es ih => exact fun h => by rw [star_cons ((Bool.and_eq_true _ _).mp h).1]; exact ih ((Bool.and_eq_true _ _).mp h).2
variable {E : Expr -> Cd -> Cd} (hE : HE X κ E)
include hE
theorem bin2 {e1 e2 : Expr} {o : Operator} {p} (h : ru X κ Q (E e1 (E e2 c)) st L C l) (rl : Rl F L C fr) (rh : RH F l H) {K : W -> Hl -> Prop}
  (k : ∀ {F' w1 w2 v1 v2 l' H'}, Fle F F' -> RV F' w1 v1 -> RV F' w2 v2 -> RH F' l' H' -> ru X κ Q c (w2 :: w1 :: st) L C l' -> WOp X κ.n o v1 v2 H' (PW F K)) : WE X κ.n κ.fi κ.env fr (.BinOp e1 o e2 p) H (PW F K) :=
 we_bin (weW (hE h rl rh) fun g1 r1 h1 k1 => weW (hE k1 (rl.up g1) h1) fun g2 r2 h2 k2 => k (g1.trans g2) (r1.up g2) r2 h2 k2)
theorem binR {e1 e2 : Expr} {o : Operator} {p} {i : Int} (e : lit e2 = some i) (h : ru X κ Q (E e1 c) st L C l) (rl : Rl F L C fr) (rh : RH F l H) {K : W -> Hl -> Prop}
  (k : ∀ {F' w1 v1 l' H'}, Fle F F' -> RV F' w1 v1 -> RH F' l' H' -> ru X κ Q c (w1 :: st) L C l' -> WOp X κ.n o v1 (.int i) H' (PW F K)) : WE X κ.n κ.fi κ.env fr (.BinOp e1 o e2 p) H (PW F K) := by
 obtain ⟨a, b, rfl⟩ := lit_ok e
 exact we_bin (weW (hE h rl rh) fun g1 r1 h1 k1 => we_int (k g1 r1 h1 k1))
theorem binL {e1 e2 : Expr} {o : Operator} {p} {i : Int} (e : lit e1 = some i) (h : ru X κ Q (E e2 c) st L C l) (rl : Rl F L C fr) (rh : RH F l H) {K : W -> Hl -> Prop}
  (k : ∀ {F' w1 v1 l' H'}, Fle F F' -> RV F' w1 v1 -> RH F' l' H' -> ru X κ Q c (w1 :: st) L C l' -> WOp X κ.n o (.int i) v1 H' (PW F K)) : WE X κ.n κ.fi κ.env fr (.BinOp e1 o e2 p) H (PW F K) := by
 obtain ⟨a, b, rfl⟩ := lit_ok e
 exact we_bin (we_int (weW (hE h rl rh) fun g1 r1 h1 k1 => k g1 r1 h1 k1))
omit hE in
theorem mul_ok {w1 w2 v1 v2} (r1 : RV F w1 v1) (r2 : RV F w2 v2) (rh : RH F l H) {F0} (g : Fle F0 F) (h : ru X κ Q (.mul c) (w2 :: w1 :: st) L C l) : WOp X κ.n .Mult v1 v2 H (PW F0 fun w l' => ru X κ Q c (w :: st) L C l') := by
 obtain ⟨y, rfl, h⟩ := int1 h r2
 rcases intK_ok h with ⟨x, rfl, h⟩ | h
 ·rw [show v1 = _ from r1]
  exact op_mul (.inr h.get.p) (.mk (w := .int _) g rfl rh h.get.q)
 ·obtain ⟨a, x, rfl, e, h⟩ := il1 h r1 rh
  cases x with
  | nil => exact False.elim h
  | cons z x => induction x with
   | nil => exact op_mulL e h.get.p.2 h.get.p.1 fun a ha => h.get.q.get.ok rh (RVs.rep (w := .int z) rfl _) g ha
   | cons => exact False.elim h
theorem bin_ok {e1 e2 : Expr} {o : Operator} {p : Pos} (h : ru X κ Q (cBin E e1 o e2 c) st L C l) (rl : Rl F L C fr) (rh : RH F l H) : WE X κ.n κ.fi κ.env fr (.BinOp e1 o e2 p) H (PW F fun w l' => ru X κ Q c (w :: st) L C l') := by
 induction o with
 | Add => exact bin2 hE h rl rh fun g r1 r2 h1 k1 => add_ok (k := fun v => ru X κ Q c (v :: st) L C _) k1 r1 r2 h1 g fun O h => h
 | Sub =>
  exact bin2 hE h rl rh fun g r1 r2 h1 k1 => by
   obtain ⟨x, rfl, k⟩ := int1 k1 r1
   obtain ⟨y, rfl, k⟩ := int1 k r2
   exact op_sub (.mk (w := .int _) g rfl h1 k)
 | Mult =>
  have m2 : ru X κ Q (match lit e1 with
   | some i => ifc (decide (i.natAbs < 2 ^ 64)) (E e2 (.ml i c))
   | none => E e1 (E e2 (.mul c))) st L C l -> WE X κ.n κ.fi κ.env fr (.BinOp e1 .Mult e2 p) H (PW F fun w l' => ru X κ Q c (w :: st) L C l') := fun h => by
   cases e : lit e1 with
   | some i =>
    rw [e] at h
    refine cps fun G0 z0 => ?_
    obtain ⟨w, h⟩ := ifc_ok h
    refine z0 ?_
    clear z0
    exact binL hE e h rl rh fun g r1 h1 k1 => by
     obtain ⟨x, rfl, k⟩ := int1 k1 r1
     exact op_mul (.inl (of_decide_eq_true w)) (.mk (w := .int _) g rfl h1 k)
   | none =>
    rw [e] at h
    exact bin2 hE h rl rh fun g r1 r2 h1 k1 => mul_ok r1 r2 h1 g k1
  unfold cBin at h
  dsimp only at h
  cases e : lit e2 with
  | none => rw [e] at h; exact m2 h
  | some i =>
   rw [e] at h
   cases e' : isLst e1 with
   | true => rw [e'] at h; exact m2 h
   | false =>
    rw [e'] at h
    obtain ⟨w, h⟩ := ifc_ok h
    exact binR hE e h rl rh fun g r1 h1 k1 => by
     obtain ⟨x, rfl, k⟩ := int1 k1 r1
     exact op_mul (.inr (of_decide_eq_true w)) (.mk (w := .int _) g rfl h1 k)
 | Mod =>
  unfold cBin at h
  dsimp only at h
  cases e : lit e2 with
  | some i =>
   rw [e] at h
   obtain ⟨w, h⟩ := ifc_ok h
   exact binR hE e h rl rh fun g r1 h1 k1 => by
    obtain ⟨x, rfl, k⟩ := int1 k1 r1
    exact op_mod (of_decide_eq_true w) (.mk (w := .int _) g rfl h1 k)
  | none =>
   rw [e] at h
   exact bin2 hE h rl rh fun g r1 r2 h1 k1 => by
    obtain ⟨x, rfl, k⟩ := int1 k1 r1
    obtain ⟨y, rfl, k⟩ := int1 k r2
    exact op_mod k.get.p (.mk (w := .int _) g rfl h1 k.get.q)
 | FloorDiv =>
  unfold cBin at h
  dsimp only at h
  cases e : lit e2 with
  | some i =>
   rw [e] at h
   obtain ⟨w, h⟩ := ifc_ok h
   have w := (Bool.and_eq_true _ _).mp w
   exact binR hE e h rl rh fun g r1 h1 k1 => by
    obtain ⟨x, rfl, k⟩ := int1 k1 r1
    exact op_div (of_decide_eq_true w.1) (of_decide_eq_true w.2) (.mk (w := .int _) g rfl h1 k)
  | none =>
   rw [e] at h
   exact bin2 hE h rl rh fun g r1 r2 h1 k1 => by
    obtain ⟨x, rfl, k⟩ := int1 k1 r1
    obtain ⟨y, rfl, k⟩ := int1 k r2
    exact op_div k.get.p.1 k.get.p.2 (.mk (w := .int _) g rfl h1 k.get.q)
 | Pow =>
  obtain ⟨a, e, h2⟩ := opt_ok h
  cases e' : lit e2 with
  | some b =>
   simp only [e'] at h2
   obtain ⟨w, h3⟩ := ifc_ok h2
   have w := (Bool.and_eq_true _ _).mp w
   obtain ⟨_, _, rfl⟩ := lit_ok e
   obtain ⟨_, _, rfl⟩ := lit_ok e'
   exact we_bin (we_int (we_int (op_pow (of_decide_eq_true w.1) (of_decide_eq_true w.2) (  .mk (w := .int _) .rfl rfl rh h3))))
  | none =>
   rw [e'] at h2
   obtain ⟨w, h3⟩ := ifc_ok h2
   rw [of_decide_eq_true w] at e
   exact binL hE e h3 rl rh fun g r1 h1 k1 => by
    obtain ⟨x, rfl, k⟩ := int1 k1 r1
    exact op_pow k.get.p.1 (pow_room k.get.p.2) (.mk (w := .int _) g rfl h1 k.get.q)
 | _ => exact False.elim h
omit hE in
theorem cmpC_ok {o : CmpOp} {a b : W} {va vb : V} {F0} (h : ru X κ Q (cmpC o c) (b :: a :: st) L C l) (ra : RV F a va) (rb : RV F b vb) (rh : RH F l H) (g : Fle F0 F) : WCmp X κ.n o va vb H (PW F0 fun w l' => ru X κ Q c (w :: st) L C l') := by
 have co : ∀ {o}, ru X κ Q (.co o c) (b :: a :: st) L C l -> WCmp X κ.n o va vb H (PW F0 fun w l' => ru X κ Q c (w :: st) L C l') := fun h => by
  obtain ⟨x, rfl, k⟩ := int1 h ra
  obtain ⟨y, rfl, k⟩ := int1 k rb
  exact co_ok (k := fun z => ru X κ Q c (.bool z :: st) L C l) k rh g fun O h => h
 have me : ∀ {s}, ru X κ Q (.mem s c) (b :: a :: st) L C l -> WCmp X κ.n (bif s then .In else .NotIn) va vb H (PW F0 fun w l' => ru X κ Q c (w :: st) L C l') := fun {s} h => by
  obtain ⟨x, rfl, k⟩ := int1 h ra
  exact mem_ok (k := fun r => sg s r fun r => ru X κ Q c (.bool r :: st) L C l) k rb rh g fun O h => by induction s <;> exact h
 induction o with
 | Eq => exact eq_ok (s := true) (k := fun z => ru X κ Q c (.bool z :: st) L C l) h ra rb rh g fun O h => h
 | NotEq => exact eq_ok (s := false) (k := fun z => ru X κ Q c (.bool z :: st) L C l) h ra rb rh g fun O h => h
 | Is =>
  obtain ⟨e, k⟩ := none_ok h
  subst e
  rw [show vb = _ from rb]
  exact isn_ok ra rh g k
 | In => exact me (s := true) h
 | NotIn => exact me (s := false) h
 | Lt => exact co h
 | LtE => exact co h
 | Gt => exact co h
 | GtE => exact co h
 | _ => exact False.elim h
omit hE in
theorem br_ok {a b : Cd} {w : W} {v : V} (h : ru X κ Q (.br a b) (w :: st) L C l) (r : RV F w v) (rh : RH F l H) {F0} (g : Fle F0 F) : WTr X κ.n v H (PT F0 fun x l' => (x = true -> ru X κ Q a st L C l') /\ (x = false -> ru X κ Q b st L C l')) := by
 obtain ⟨x, rfl, h⟩ := bool_ok h
 rw [show v = _ from r]
 exact tr_bool ⟨g, rh, h.get⟩
omit hE in
theorem W2.pw {o : CmpOp} {va vb : V} {F0 : Fz} {K : W -> Hl -> Prop} {Q' : V -> Hp -> Prop} (h : WCmp X κ.n o va vb H (PW F0 K)) (k : ∀ {F' w l v H'}, Fle F0 F' -> RV F' w v -> RH F' l H' -> K w l -> Q' v H') : WCmp X κ.n o va vb H Q' := h.mono fun O O p => p.el k
theorem cmpA {e1 e2 : Expr} {o : CmpOp} (h : ru X κ Q (E e1 (E e2 (cmpC o c))) st L C l) (rl : Rl F L C fr) (rh : RH F l H) {Q' : V -> Hp -> Prop} (q : ∀ {F' w l' v H'}, Fle F F' -> RV F' w v -> RH F' l' H' -> ru X κ Q c (w :: st) L C l' -> Q' v H') :
  WE X κ.n κ.fi κ.env fr e1 H fun a H₁ => WE X κ.n κ.fi κ.env fr e2 H₁ fun b H₂ => WCmp X κ.n o a b H₂ Q' :=
 weW (hE h rl rh) fun g1 r1 h1 k1 => weW (hE k1 (rl.up g1) h1) fun g2 r2 h2 k2 => (cmpC_ok k2 (r1.up g2) r2 h2 (g1.trans g2)).pw q
theorem cmpB {e1 e2 e3 : Expr} {o o' : CmpOp} (h : ru X κ Q (E e1 (E e2 (.ch o (E e3 (cmpC o' c)) d))) st L C l) (rl : Rl F L C fr) (rh : RH F l H) {Q' Q2 : V -> Hp -> Prop} (q : ∀ {F' w l' v H'}, Fle F F' -> RV F' w v -> RH F' l' H' -> ru X κ Q c (w :: st) L C l' -> Q' v H')
  (q2 : ∀ {F' l' H'}, Fle F F' -> RH F' l' H' -> ru X κ Q d (.bool false :: st) L C l' -> Q2 (.bool false) H') :
  WE X κ.n κ.fi κ.env fr e1 H fun a H₁ => WE X κ.n κ.fi κ.env fr e2 H₁ fun b H₂ => WCmp X κ.n o a b H₂ fun v H₃ => WTr X κ.n v H₃ fun t H₄ => (t = true -> WE X κ.n κ.fi κ.env fr e3 H₄ fun d H₅ => WCmp X κ.n o' b d H₅ Q') /\ (t = false -> Q2 v H₄) :=
 weW (hE h rl rh) fun g1 r1 h1 k1 => weW (hE k1 (rl.up g1) h1) fun g2 r2 h2 k2 => by
  obtain ⟨x, rfl, k⟩ := int1 k2 (r1.up g2)
  obtain ⟨y, rfl, k⟩ := int_ok k
  rw [show _ = _ from r2]
  refine (co_ok (F0 := F) (K := fun w l' => ∃ z, w = .bool z /\ _ = l' /\ Br z (ru X κ Q (E e3 (cmpC o' c)) (.int y :: st) L C l') (ru X κ Q d (.bool z :: st) L C l')) k h2 (g1.trans g2) fun z q => ⟨z, rfl, rfl, q.get⟩).pw fun {F3 w l3 v H3} g3 r3 h3 k3 => ?_
  refine cps fun G0 z0 => ?_
  obtain ⟨z, rfl, _, k3⟩ := k3
  refine z0 ?_
  clear z0
  rw [show v = _ from r3]
  refine tr_bool ⟨fun e => weW (hE (k3.1 e) (rl.up g3) h3) fun g4 r4 h4 k4 => (cmpC_ok k4 (show RV _ (.int y) (.int y) from rfl) r4 h4 (g3.trans g4)).pw q, fun e => ?_⟩
  subst e
  exact q2 g3 h3 (k3.2 rfl)
end
end
section
inductive P2s (F : Fz) (n : Nat) (K : List W -> Hl -> Prop) (vs : List V) (H : Hp) : Prop
 | mk {F' ws l} (g : Fle F F') (r : RVs F' ws vs) (h : RH F' l H) (n : ws.length = n) (k : K ws l)
section
variable {X : Wd} {κ : Kx} {Q : Qt} {c d : Cd} {st : List W} {L C : LW} {l : Hl} {F : Fz} {fr : Frame} {H : Hp} {E : Expr -> Cd -> Cd} {T : Expr -> Cd -> Cd -> Cd}
theorem args_ok (hE : HE X κ E) {es : List Expr} : ∀ {st F l H fr}, es.all noStar = true -> ru X κ Q (args E es c) st L C l -> Rl F L C fr -> RH F l H -> WEs X κ.n κ.fi κ.env fr es H (P2s F es.length fun ws l' => ru X κ Q c (ws.reverse ++ st) L C l') := by
 induction es with
 | nil => exact fun O h O rh => wes_nil (.mk (ws := []) .rfl rfl rh rfl h)
 | cons e es ih =>
  refine fun k h rl rh => wes_cons (weW (hE h rl rh) fun g1 r1 h1 k1 => (ih ((Bool.and_eq_true _ _).mp k).2 k1 (rl.up g1) h1).mono fun vs H₂ p => p.rec fun {F' ws l'} g r h n k => ?_) (star_cons ((Bool.and_eq_true _ _).mp k).1 _ _)
  exact .mk (ws := _ :: ws) (g1.trans g) ⟨_, _, rfl, r1.up g, r⟩ h (congrArg (· + 1) n) (by rw [List.reverse_cons, List.append_assoc]; exact k)
theorem tests_ok (hT : HT X κ T) {op : BoolOp} {a b : Cd} {es : List Expr} : ∀ {F l H}, ru X κ Q (tests T op es a b) st L C l -> Rl F L C fr -> RH F l H -> WTs X κ.n κ.fi κ.env op fr es H (PT F fun x l' => (x = true -> ru X κ Q a st L C l') /\ (x = false -> ru X κ Q b st L C l')) := by
 induction es with
 | nil =>
  refine fun h O rh => ?_
  induction op with
  | And => exact wts_and_nil ⟨.rfl, rh, fun O => h, fun z => (nomatch z)⟩
  | Or => exact wts_or_nil ⟨.rfl, rh, fun z => (ff_no z), fun O => h⟩
 | cons e es ih =>
  refine fun h rl rh => ?_
  have up : ∀ {F F' x H} {k : Bool -> Hl -> Prop}, Fle F F' -> PT F' k x H -> PT F k x H := fun g p => p.rec fun g' h k => ⟨g.trans g', h, k⟩
  induction op with
  | And => exact wts_and (wtW (hT h rl rh) fun g1 h1 k1 => ⟨fun z => WTs.mono' (ih (k1.1 z) (rl.up g1) h1) fun O O => up g1, fun z => ⟨g1, h1, fun y => (ff_no y), fun O => k1.2 z⟩⟩)
  | Or => exact wts_or (wtW (hT h rl rh) fun g1 h1 k1 => ⟨fun z => WTs.mono' (ih (k1.2 z) (rl.up g1) h1) fun O O => up g1, fun z => ⟨g1, h1, fun O => k1.1 z, fun y => (ff_no (Eq.symm y))⟩⟩)
theorem ands_ok (hE : HE X κ E) {es : List Expr} : ∀ {F l H}, ru X κ Q (ands E es c) st L C l -> Rl F L C fr -> RH F l H -> WBs X κ.n κ.fi κ.env .And fr es H (PW F fun w l' => ru X κ Q c (w :: st) L C l') := by
 induction es with
 | nil => exact fun h => False.elim h
 | cons e es ih =>
  cases es with
  | nil => exact fun h rl rh => wbs_one (hE h rl rh)
  | cons e' es => exact fun h rl rh => wbs_and (weW (hE h rl rh) fun {F1 w l1 v H1} g1 r1 h1 k1 => by
    obtain ⟨x, rfl, q⟩ := bool_ok k1
    rw [show v = _ from r1]
    exact tr_bool ⟨fun z => WBs.mono' (ih (q.get.1 z) (rl.up g1) h1) fun O O => PW.tr g1, fun z => by subst z; exact .mk (w := .bool _) g1 rfl h1 (q.get.2 rfl)⟩)
theorem slc_ok {i : Expr} {p} (h : slc i = some p) : ∃ q, i = .Slice p.1 p.2.1 p.2.2 q := by
 have k := ev_ok i
 revert h k
 unfold slc
 generalize ev i = v
 intro h k
 cases v with
 | sl => cases h; exact k
 | _ => exact none_no h
theorem sub_plain {i : Expr} (h : slc i = none) (o v : Value) : subscripted i false o v = operate [o, v] (getItem o v) := by
 cases i with
 | Slice => cases h
 | _ => rfl
theorem sl_xy {vs : List V} {x y : Int} {m n : Nat} {Q : V -> Hp -> Prop} (hl : vs.length = m) (k : (0 <= x /\ x <= y) /\ y <= m /\ y - x < m /\ m <= 10000000) (h : Q (.tup ((vs.drop x.toNat).take (y.toNat - x.toNat))) H) : WSl X n (.tup vs) (some x) (some y) H Q := by
 subst hl
 obtain ⟨⟨h0, h1⟩, h2, h3, h4⟩ := k
 obtain ⟨a, rfl⟩ := Int.eq_ofNat_of_zero_le h0
 obtain ⟨b, rfl⟩ := Int.eq_ofNat_of_zero_le (Int.le_trans h0 h1)
 have h1 := Int.ofNat_le.mp h1
 exact sl_tup (.inl rfl) h1 (Int.ofNat_le.mp h2) (Int.ofNat_lt.mp (by rw [Int.ofNat_sub h1]; exact h3)) h4 h
theorem sl_y {vs : List V} {y : Int} {m n : Nat} {Q : V -> Hp -> Prop} (hl : vs.length = m) (k : (0 <= y /\ y < m) /\ m <= 10000000) (h : Q (.tup (vs.take y.toNat)) H) : WSl X n (.tup vs) none (some y) H Q := by
 subst hl
 obtain ⟨⟨h0, h1⟩, h4⟩ := k
 obtain ⟨b, rfl⟩ := Int.eq_ofNat_of_zero_le h0
 have h1 := Int.ofNat_lt.mp h1
 exact sl_tup (.inr ⟨rfl, rfl⟩) (Nat.zero_le _) (Nat.le_of_lt h1) h1 h4 h
theorem sl_bxy {b : Array UInt8} {x y : Int} {n : Nat} {Q : V -> Hp -> Prop} (k : (0 <= x /\ x <= y) /\ y <= b.size /\ b.size <= 10000000) (h : Q (.bytes (pickB b x.toNat y.toNat)) H) : WSl X n (.bytes b) (some x) (some y) H Q := by
 obtain ⟨⟨h0, h1⟩, h2, h4⟩ := k
 obtain ⟨a, rfl⟩ := Int.eq_ofNat_of_zero_le h0
 obtain ⟨c, rfl⟩ := Int.eq_ofNat_of_zero_le (Int.le_trans h0 h1)
 have h2 := Int.ofNat_le.mp h2
 exact sl_bytes rfl (.inl ⟨rfl, h2⟩) (Nat.le_trans (Int.ofNat_le.mp h1) h2) h4 h
theorem sub_ok (hE : HE X κ E) {o i : Expr} {p} (h : ru X κ Q (cSub E o i c) st L C l) (rl : Rl F L C fr) (rh : RH F l H) : WE X κ.n κ.fi κ.env fr (.Subscript o i p) H (PW F fun w l' => ru X κ Q c (w :: st) L C l') := by
 dsimp only [cSub] at h
 cases e : slc i with
 | none =>
  rw [e] at h
  dsimp only at h
  cases e2 : lit i with
  | some j =>
   rw [e2] at h
   induction j with
   | negSucc => exact False.elim h
   | ofNat k =>
    obtain ⟨hk, h3⟩ := ifc_ok h
    clear h
    obtain ⟨_, _, rfl⟩ := lit_ok e2
    exact we_sub (weW (hE h3 rl rh) fun {F1 w l1 v H1} g1 r1 h1 k1 => we_int (kdI_ok (k := fun v => ru X κ Q c (v :: st) L C l1) (kdN_up (by have := Nat.le_of_ble_eq_true hk; lia) k1) r1 h1 g1 (fun O h => h) _ _ (sub_plain e)))
  | none =>
   rw [e2] at h
   exact we_sub (weW (hE h rl rh) fun g1 r1 h1 k1 => weW (hE k1 (rl.up g1) h1) fun {F2 w l2 v H2} g2 r2 h2 k2 => by
    obtain ⟨x, rfl, k⟩ := int1 k2 r2
    exact kdI_ok (k := fun v => ru X κ Q c (v :: st) L C l2) k (r1.up g2) h2 (g1.trans g2) (fun O h => h) _ _ (sub_plain e))
 | some p =>
  simp only [e] at h
  obtain ⟨q, rfl⟩ := slc_ok e
  obtain ⟨a, b, s⟩ := p
  induction s with
  | some => exact False.elim h
  | none =>
   induction a with
   | some a => induction b with
    | some b =>
     refine we_slice (weW (hE h rl rh) fun {F1 w1 l1 v1 H1} g1 r1 h1 k1 => wp_some (weW (hE k1 (rl.up g1) h1) fun {F2 w2 l2 v2 H2} g2 r2 h2 k2 => ?_))
     obtain ⟨x, e2, k2⟩ := int1 k2 r2
     refine ⟨x, e2, wp_some (weW (hE k2 (rl.up (g1.trans g2)) h2) fun {F3 w3 l3 v3 H3} g3 r3 h3 k3 => ?_)⟩
     obtain ⟨y, e3, k3⟩ := int1 k3 r3
     refine ⟨y, e3, ?_⟩
     have ro := (r1.up g2).up g3
     have k3 : sl2K w1 x y fun v => ru X κ Q c (v :: st) L C l3 := k3
     cases w1 with
     | bytes z =>
      rw [show v1 = _ from ro]
      have k := Stp.get k3
      exact ⟨ty_bytes, sl_bxy k.p (.mk (w := .bytes _) ((g1.trans g2).trans g3) rfl h3 k.q)⟩
     | tup z =>
      obtain ⟨vs, rfl, ro⟩ := ro
      have k := Stp.get k3
      exact ⟨ty_tup, sl_xy ro.len k.p (.mk (w := .tup _) ((g1.trans g2).trans g3) ⟨_, rfl, (ro.drop _).take _⟩ h3 k.q)⟩
     | _ => exact False.elim k3
    | none =>
     refine we_slice (weW (hE h rl rh) fun {F1 w1 l1 v1 H1} g1 r1 h1 k1 => wp_some (weW (hE k1 (rl.up g1) h1) fun {F2 w2 l2 v2 H2} g2 r2 h2 k2 => ?_))
     obtain ⟨x, e2, k3⟩ := int1 k2 r2
     refine ⟨x, e2, wp_none ?_⟩
     have ro := r1.up g2
     have k3 : slFK w1 x fun v => ru X κ Q c (v :: st) L C l2 := k3
     cases w1 with
     | bytes z =>
      rw [show v1 = _ from ro]
      have k := Stp.get k3
      exact ⟨ty_bytes, sl_bytes (x := x.toNat) (congrArg some (Int.toNat_of_nonneg k.p.1.1).symm) (.inr ⟨rfl, rfl⟩) (Int.toNat_le.mpr k.p.1.2) k.p.2 (.mk (w := .bytes _) (g1.trans g2) rfl h2 k.q)⟩
     | _ => exact False.elim k3
   | none =>
    obtain ⟨b, rfl, h⟩ := opt_ok h
    refine we_slice (weW (hE h rl rh) fun {F1 w1 l1 v1 H1} g1 r1 h1 k1 => wp_none (wp_some (weW (hE k1 (rl.up g1) h1) fun {F2 w2 l2 v2 H2} g2 r2 h2 k2 => ?_)))
    obtain ⟨x, e2, k3⟩ := int1 k2 r2
    refine ⟨x, e2, ?_⟩
    have ro := r1.up g2
    have k3 : slTK X w1 x fun v => ru X κ Q c (v :: st) L C l2 := k3
    cases w1 with
    | tup z =>
     obtain ⟨vs, rfl, ro⟩ := ro
     have k := Stp.get k3
     exact ⟨ty_tup, sl_y ro.len k.p (.mk (w := .tup _) (g1.trans g2) ⟨_, rfl, ro.take _⟩ h2 k.q)⟩
    | il z =>
     obtain ⟨a, rfl, f⟩ := ro
     have k := Stp.get k3
     have ha := (h2.fz _ _ f).1
     refine ⟨ty_list ha, ?_⟩
     rw [<- Int.toNat_of_nonneg k.p.1]
     refine sl_listTo ha (by rw [List.length_map]; exact k.p.2) fun c hc => ?_
     rw [<- List.map_take]
     exact newI h2 (g1.trans g2) k.q hc
    | ref a =>
     refine cps fun G0 z0 => ?_
     obtain ⟨xs, m, vs, e, rs, h0, hz, k⟩ := Stp.get k3
     refine z0 ?_
     clear z0
     rw [show v1 = _ from ro]
     refine ⟨ty_pin e, ?_⟩
     rw [<- Int.toNat_of_nonneg h0]
     refine sl_pinTo e rs (by rw [List.length_map]; exact hz) fun c hc => ?_
     rw [<- List.map_take]
     exact newI h2 (g1.trans g2) k hc
    | _ => exact False.elim k3
theorem att_base {o : Expr} (h : noSup o = true) (x : Str) (env : Env) (m : Sem Value) : attributeBase o x env m = m := by
 cases o with
 | Call => cases h
 | _ => rfl
theorem anm_ok {x : Str} {i : Nat} (h : idx x anm = some i) : nmA i = x /\ i < 31 := by
 have e := idx_ok h
 refine ⟨?_, (List.getElem?_eq_some_iff.mp e).1⟩
 unfold nmA
 rw [List.getD_eq_getElem?_getD, e]; rfl
theorem att_ok (hE : HE X κ E) (G : Gd X) {o : Expr} {x : Str} {p} (h : ru X κ Q (ifc (noSup o) (opt (idx x anm) fun i => E o (.ga i c))) st L C l) (rl : Rl F L C fr) (rh : RH F l H) : WE X κ.n κ.fi κ.env fr (.Attribute o x p) H (PW F fun w l' => ru X κ Q c (w :: st) L C l') := by
 refine cps fun G0 z0 => ?_
 obtain ⟨k, h⟩ := ifc_ok h
 obtain ⟨i, e, h⟩ := opt_ok h
 obtain ⟨e, hi⟩ := anm_ok e
 refine z0 ?_
 clear z0
 refine (e) ▸ ?_
 clear e
 refine we_attr (weW (hE h rl rh) fun {F1 w l1 v H1} g1 r1 h1 k1 => ?_) (att_base k _)
 obtain ⟨a, rfl, k1⟩ := ref_ok k1
 rw [show v = _ from r1]
 refine cps fun G0 z0 => ?_
 obtain ⟨m, y, e, k1⟩ := k1.get
 refine z0 ?_
 clear z0
 induction y with
 | obj B d kvs =>
  have k1 : (bif okX B i then lkN kvs i fun v => ru X κ Q c (v :: st) L C l1 else False) := k1
  cases z : okX B i with
  | false => rw [z] at k1; exact False.elim k1
  | true =>
   rw [z] at k1
   refine cps fun G0 z0 => ?_
   obtain ⟨q1, kv, q2, q3, q4⟩ := h1.get e
   obtain ⟨w, u, e2, r2, k1⟩ := lkN_ok hi k1 q3
   refine z0 ?_
   clear z0
   exact ga_inst q1 q2 e2 (G.att B i q4 z hi).1 (.mk g1 r2 h1 k1)
 | _ => exact False.elim k1
noncomputable def stP : List (Int × W) -> List W -> List W
 | [], st => st
 | p :: r, st => stP r (p.2 :: .int p.1 :: st)
theorem stP_app {a b : List (Int × W)} : ∀ {st}, stP (a ++ b) st = stP b (stP a st) := by
 induction a with
 | nil => exact rfl
 | cons p a ih => exact ih
theorem popK_eq {k : List (Int × W) -> List W -> Prop} {st : List W} (kvs : List (Int × W)) : ∀ {acc}, popK kvs.length (stP kvs.reverse st) acc k -> k (kvs.reverse ++ acc) st := by
 induction kvs with
 | nil => exact id
 | cons p r ih =>
  intro acc h
  rw [List.reverse_cons, stP_app] at h
  rw [List.reverse_cons, List.append_assoc]
  exact ih (acc := p :: acc) h
inductive P2k (F : Fz) (n : Nat) (K : List (Int × W) -> Hl -> Prop) (kvs : List (Int × V)) (H : Hp) : Prop
 | mk {F' ws l} (g : Fle F F') (r : RK F' id ws kvs) (h : RH F' l H) (n : ws.length = n) (k : K ws l)
theorem prs_ok (hE : HE X κ E) {ks : List Expr} : ∀ {vs : List Expr} {st F l H fr}, ks.length = vs.length -> ru X κ Q (prs E ks vs c) st L C l -> Rl F L C fr -> RH F l H -> WPr X κ.n κ.fi κ.env fr (ks.zip vs) H (P2k F ks.length fun ws l' => ru X κ Q c (stP ws st) L C l') := by
 induction ks with
 | nil => exact fun {vs st F l H fr} => vs.casesOn (fun O h O rh => wpr_nil (.mk (ws := []) .rfl rfl rh rfl h)) fun O O e => (Nat.succ_ne_zero _ (Eq.symm e)).elim
 | cons k ks ih => exact fun {vs st F l H fr} => vs.casesOn (fun e => (Nat.succ_ne_zero _ e).elim) fun v vs e h rl rh => wpr_cons (weW (hE h rl rh) fun {F1 w1 l1 v1 H1} g1 r1 h1 k1 => by
   obtain ⟨i, e1, k1⟩ := int1 k1 r1
   refine ⟨i, e1, weW (hE k1 (rl.up g1) h1) fun {F2 w2 l2 v2 H2} g2 r2 h2 k2 => (ih (Nat.succ.inj e) k2 (rl.up (g1.trans g2)) h2).mono' fun kvs H3 p => p.rec fun {F3 ws l3} g3 r3 h3 n3 k3 => ?_⟩
   exact .mk (ws := (i, w2) :: ws) ((g1.trans g2).trans g3) ⟨v2, _, rfl, r2.up g3, r3⟩ h3 (congrArg (· + 1) n3) k3)
theorem kys_ok {ks : List (Option Expr)} : ∀ {es}, kys ks = some es -> ks = es.map some := by
 induction ks with
 | nil => exact fun e => Option.some.inj e ▸ rfl
 | cons o r ih =>
  induction o with
  | none => exact fun e => none_no e
  | some e => exact fun h => (Option.map_eq_some_iff.mp h).elim fun q e2 => e2.2 ▸ congrArg (_ :: ·) (ih e2.1)
theorem RK.merge {F : Fz} {k : List (Int × W)} {k'} (r : RK F id k k') : ∀ {a : List (Int × W)} {a'}, RK F id a a' -> RK F id (k.foldl (fun a p => putG a p.1 p.2) a) (k'.foldl (fun a p => putI a p.1 p.2) a') := by
 induction k generalizing k' with
 | nil => intro a a' h; rw [show k' = [] from r]; exact h
 | cons p k ih => obtain ⟨v, r', rfl, q, r⟩ := r; intro a a' h; exact ih r (h.put q)
theorem dict_ok (hE : HE X κ E) {ks : List (Option Expr)} {vs : List Expr} {p} (h : ru X κ Q (cDict E ks vs c) st L C l) (rl : Rl F L C fr) (rh : RH F l H) : WE X κ.n κ.fi κ.env fr (.Dict ks vs p) H (PW F fun w l' => ru X κ Q c (w :: st) L C l') := by
 induction ks with
 | nil =>
  obtain ⟨rfl, h⟩ := emp_ok h
  exact we_dict0 fun a ep ha => newD rh .rfl (y := []) rfl (h.get a) ha
 | cons k r =>
  obtain ⟨es, e, h⟩ := opt_ok h
  obtain ⟨w, h⟩ := ifc_ok h
  have w := (Bool.and_eq_true _ _).mp w
  have wl := eq_of_beq w.1
  have ek := kys_ok e
  refine we_dict (ps := es.zip vs) ?_ ?_ ?_ ?_ ((prs_ok hE wl h rl rh).mono' fun kvs H1 q => q.rec fun {F1 ws l1} g1 r1 h1 n1 k1 => fun a ep ha => ?_) (fun env => ?_)
  ·have := congrArg (List.map some) (List.map_fst_zip (l₁ := es) (l₂ := vs) (Nat.le_of_eq wl))
   rw [List.map_map] at this
   rw [ek]; exact this.symm
  ·rw [List.map_snd_zip (Nat.le_of_eq wl.symm)]
  ·intro z
   have z := congrArg List.length z
   rw [List.length_zip, wl, Nat.min_self, <- wl] at z
   rw [List.length_eq_zero_iff.mp z] at ek
   cases ek
  ·rw [List.length_zip, wl, Nat.min_self, <- wl]; exact Nat.le_of_ble_eq_true w.2
  ·generalize es.zip vs = ps
   induction ps with
   | nil => rfl
   | cons p ps ih => exact congrArg (List.cons _) ih
  ·have k2 := popK_eq (k := fun kvs st => Stp (∀ a, ru X κ Q c (.ref a :: st) L C (.c a (.dict (kvs.foldl (fun a p => putG a p.1 p.2) [])) l1))) (st := st) ws.reverse (acc := []) (by rw [List.length_reverse, n1, List.reverse_reverse]; exact k1)
   rw [List.reverse_reverse, List.append_nil] at k2
   exact newD h1 g1 (r1.merge (a := []) rfl) (k2.get a) ha
end
end
section
theorem RVs.letsI {F : Fz} : ∀ l : List Nat, RVs F (l.map fun c => .str ⟨#[c]⟩) (l.map fun c => .str ⟨#[c]⟩)
 | [] => rfl
 | _ :: l => ⟨_, _, rfl, rfl, RVs.letsI l⟩
theorem RVs.rgI {F : Fz} {x s : Int} : ∀ {k}, RVs F (rgW x s k) (rangeL x s k)
 | 0 => rfl
 | k + 1 => ⟨_, _, rfl, rfl, RVs.rgI⟩
theorem RVs.keysI {F : Fz} {y : List (Int × W)} : ∀ {kv}, RK F id y kv -> RVs F (y.map fun p => .int p.1) (kv.map fun p => V.int p.1) := by
 induction y with
 | nil => exact fun h => (show _ = _ from h) ▸ rfl
 | cons p y ih => exact fun q => q.elim fun v q => q.elim fun r q => q.1 ▸ ⟨_, _, rfl, rfl, ih q.2.2⟩
section
variable {X : Wd} {F : Fz} {l l1 : Hl} {H : Hp} {w : W} {v : V} {ws : List W}
theorem its_ok (h : Its w l ws l1) (r : RV F w v) (rh : RH F l H) : ∃ F1 vs K, Fle F F1 /\ RH F1 l1 H /\ RVs F1 ws vs /\ (∀ n, WIt X n v H vs K) /\ ∀ F' l' H', Fle F1 F' -> RH F' l' H' -> K H' := by
 have fz : ∀ {F1 : Fz} {a : Addr} {c}, F1 a = some c -> ∀ F' l' H', Fle F1 F' -> RH F' l' H' -> H' a = some c := fun e F' l' H' g q => (q.fz _ _ (g _ _ e)).1
 rcases h with ⟨h, rfl⟩ | ⟨a, n, rfl, h⟩
 ·cases w with
  | tup x =>
   rw [show ws = _ from h]
   obtain ⟨vs, rfl, r⟩ := r
   exact ⟨F, vs, _, .rfl, rh, r, fun n => wit_tup, fun O O O O O => trivial⟩
  | lst x =>
   rw [show ws = _ from h]
   obtain ⟨a, vs, rfl, e, r⟩ := r
   exact ⟨F, vs, _, .rfl, rh, r, fun n => wit_list (rh.fz _ _ e).1, fz e⟩
  | il x =>
   rw [show ws = _ from h]
   obtain ⟨a, rfl, e⟩ := r
   exact ⟨F, _, _, .rfl, rh, RVs.ints x, fun n => wit_list (rh.fz _ _ e).1, fz e⟩
  | bytes x =>
   rw [show ws = _ from h, show v = _ from r]
   exact ⟨F, _, _, .rfl, rh, RVs.ints _, fun n => wit_bytes, fun O O O O O => trivial⟩
  | str x =>
   refine cps fun G0 z0 => ?_
   obtain ⟨ha, h⟩ := h
   refine z0 ?_
   clear z0
   rw [h, show v = _ from r]
   exact ⟨F, _, _, .rfl, rh, RVs.letsI _, fun n => wit_str ha, fun O O O O O => trivial⟩
  | rng x y z =>
   obtain ⟨hs, k, hk, h⟩ := h
   rw [h]
   obtain ⟨a, rfl, e⟩ := r
   exact ⟨F, _, _, .rfl, rh, RVs.rgI, fun n => wit_range (rh.fz _ _ e).1 hs k hk, fun O O O O O => trivial⟩
  | _ => exact False.elim h
 ·rw [show v = _ from r]
  rcases h with ⟨y, e, rfl, rfl⟩ | ⟨e, rfl⟩ | ⟨y, e, rfl, rfl⟩ | ⟨y, e, rfl, rfl⟩
  ·refine cps fun G0 z0 => ?_
   obtain ⟨vs, q, z⟩ := rh.get e
   refine z0 ?_
   clear z0
   have f := rh.freeze (y := .frz ws) e rfl rfl q ⟨vs, Hp.set_same _ _ _, z.up (fun b d q' => (Hp.set_ne fun k => (rh.fz _ _ q').2 (k ▸ Hl.at_adr e a (.head _))).trans q')⟩
   exact ⟨_, vs, _, f.1, f.2, z.up f.1, fun n => wit_list q, fz (Hp.set_same _ _ _)⟩
  ·obtain ⟨vs, q, z⟩ := rh.get e
   exact ⟨F, vs, _, .rfl, rh, z, fun n => wit_list (rh.fz _ _ q).1, fz q⟩
  ·obtain ⟨kv, ep, q, z⟩ := rh.get e
   have f := rh.freeze (y := .fdict y) e rfl rfl q ⟨kv, ep, Hp.set_same _ _ _, z.up (fun b d q' => (Hp.set_ne fun k => (rh.fz _ _ q').2 (k ▸ Hl.at_adr e a (.head _))).trans q')⟩
   exact ⟨_, _, _, f.1, f.2, RVs.keysI (z.up f.1), fun n => wit_dict q, fz (Hp.set_same _ _ _)⟩
  ·obtain ⟨kv, ep, q, z⟩ := rh.get e
   exact ⟨F, _, _, .rfl, rh, RVs.keysI z, fun n => wit_dict (rh.fz _ _ q).1, fz q⟩
end
theorem idS_ok {x : String} {l : List String} : ∀ {i}, idS x l = some i -> l[i]? = some x := by
 induction l with
 | nil => exact fun h => none_no h
 | cons y r ih =>
  intro i h
  rw [idS_c] at h
  cases q : y == x with
  | true => rw [q] at h; exact Option.some.inj h ▸ congrArg some (eq_of_beq q)
  | false => rw [q] at h; exact (Option.map_eq_some_iff.mp h).elim fun j e => e.2 ▸ ih e.1
theorem RV.tag {F : Fz} {w : W} {v : V} (r : RV F w v) : v.tag = w.tag := by
 cases w with
 | il => exact r.elim fun a r => congrArg V.tag r.1
 | lst => exact r.elim fun a r => r.elim fun O r => congrArg V.tag r.1
 | rng => exact r.elim fun a r => congrArg V.tag r.1
 | tup => exact r.elim fun a r => congrArg V.tag r.1
 | _ => exact congrArg V.tag r
theorem meth_tree {o : Expr} {x : Str} {apos pos : Pos} {es : List Expr} (h1 : es.all noStar = true) (h2 : noSup o = true) (h3 : (apos.endLine == pos.line) = true) (h4 : es.length < 30) (env : Env) :
  eval (.Call (.Attribute o x apos) es [] pos) env = (do
   let ov <- eval o env
   standAt apos.atName
   let (f, first) <- holding [ov] (getMethod ov x (do return (<- importBound o env).getD true))
   callWith pos f first (backTo pos (starEach es env)) (backToKw pos (keywordEach [] env))) := by
 have e1 : methodCallForm (es.length + 0) (backTo pos (starEach es env)) (backToKw pos (keywordEach [] env)) = true := by
  have : (backTo pos (starEach es env)).all (!·.1) = true := by
   have := star_any (env := env) (pos := pos) h1
   rw [List.any_eq_false] at this
   rw [List.all_eq_true]
   intro p hp
   simpa using this p hp
  unfold methodCallForm
  rw [this]
  exact decide_eq_true h4
 show (do let ov <- attributeBase o x env (eval o env); standAt apos.atName; methodCall o x apos pos env ov (es.length + 0) (backTo pos (starEach es env)) (backToKw pos (keywordEach [] env))) = _
 rw [att_base h2]
 dsimp only [methodCall, calleeOf, methodCallPos]
 rw [e1, h3]
 rfl
section
variable {X : Wd} {κ : Kx} {Q : Qt} {c d : Cd} {st : List W} {L C : LW} {l : Hl} {F : Fz} {fr : Frame} {H : Hp} {E : Expr -> Cd -> Cd}
theorem fn_ok {a : Addr} {ws : List W} {vs : List V} {F0} (hn : Nat.ble (ht a) κ.n = true) (n : ws.length = m) (h : ru X κ Q (.f a m c) (ws.reverse ++ st) L C l) (r : RVs F ws vs) (rh : RH F l H) (g : Fle F0 F) : WC X κ.n (.ref a) vs H (PW F0 fun w l' => ru X κ Q c (w :: st) L C l') :=
 (((popN_ok (k := fun vs st => Stp (WC2 X a vs l fun v l => ru X κ Q c (v :: st) L C l)) n h).get F vs H r rh).mono fun O O => PW.tr g).up (Nat.le_of_ble_eq_true hn)
theorem bif_ok {b : Bi} {m} {ws : List W} {vs : List V} {F0} (n : ws.length = m) (h : ru X κ Q (.b b m c) (ws.reverse ++ st) L C l) (r : RVs F ws vs) (rh : RH F l H) (g : Fle F0 F) : WC X κ.n b.v vs H (PW F0 fun w l' => ru X κ Q c (w :: st) L C l') :=
 bi_ok (popN_ok (k := fun vs st => biK b vs l fun v l => ru X κ Q c (v :: st) L C l) n h) r rh g
theorem biF_ok {t : Bool} {x : String} {b : Bi} (h : biF t x = some b) : b.v = (bif t then .type x else .builtin x) := by
 have h := (Bool.and_eq_true _ _).mp (List.find?_some (p := fun b : Bi => b.s == x && b.ty == t) h)
 unfold Bi.v
 rw [eq_of_beq h.1, eq_of_beq h.2]
theorem nmO_ok {e : Expr} {p} (h : nmO e = some p) : e = .Name p.1 p.2 := by
 have k := ev_ok e
 revert h k
 unfold nmO
 generalize ev e = v
 intro h k
 cases v with
 | nm => cases h; exact k
 | _ => exact none_no h
theorem callN_ok (hE : HE X κ E) {x : Str} {es : List Expr} {p p' : Pos} (h : ru X κ Q (cCallN X.K κ.n E κ.fi.G x es c) st L C l) (ks : es.all noStar = true) (rl : Rl F L C fr) (rh : RH F l H) : WE X κ.n κ.fi κ.env fr (.Call (.Name x p) es [] p') H (PW F fun w l' => ru X κ Q c (w :: st) L C l') := by
 obtain ⟨v, hg, h⟩ := opt_ok h
 have he := fun (env : Env) (e : Expr) (r : List Expr) (q : es = e :: r) => star_cons (env := env) (show noStar e = true by subst q; exact ((Bool.and_eq_true _ _).mp ks).1) r
 have ht : ∀ e r, es = e :: r -> r.all noStar = true := fun e r q => by subst q; exact ((Bool.and_eq_true _ _).mp ks).2
 have bt : ∀ {t id b}, biF t id = some b -> ru X κ Q (ifc (!es.isEmpty) (args E es (.b b es.length c))) st L C l -> v = (bif t then .type id else .builtin id) -> WE X κ.n κ.fi κ.env fr (.Call (.Name x p) es [] p') H (PW F fun w l' => ru X κ Q c (w :: st) L C l') := fun {t id b} e h hv => by
  obtain ⟨k, h⟩ := ifc_ok h
  have e := biF_ok e
  have q := (args_ok hE ks h rl rh).mono (Q := fun vs H' => WC X κ.n (bif t then .type id else .builtin id) vs H' (PW F fun w l' => ru X κ Q c (w :: st) L C l')) fun vs H1 p => p.rec fun g r h n k => e ▸ bif_ok n k r h g
  rw [hv] at hg
  clear h
  cases es with
  | nil => cases k
  | cons e r => induction t with
   | true => exact we_tcall (.of hg) q (fun env => he env _ _ rfl) (fun env pos => star_any (ht _ _ rfl))
   | false => exact we_bcall (.of hg) q (fun env => he env _ _ rfl) (fun env pos => star_any ks)
 induction v with
 | builtin id =>
  dsimp only at h
  cases q : id == "isinstance" with
  | true =>
   rw [q] at h
   obtain ⟨e, t, e0, h2⟩ := two_ok h
   obtain ⟨y, e1, h3⟩ := opt_ok h2
   obtain ⟨v, e2, h4⟩ := opt_ok h3
   clear h h2 h3
   induction v with
   | type T =>
    obtain ⟨k, e3, h5⟩ := opt_ok h4
    rw [nmO_ok e1] at e0
    subst e0
    rw [eq_of_beq q] at hg
    refine we_isi (.of hg) (.of e2) (idS_ok e3) (weW (hE h5 rl rh) fun {F1 w l1 v H1} g1 r1 h1 k1 => ?_) (fun env => he env _ _ rfl) (fun env pos => star_any ks)
    have k1 : (match isW k w with | some b => ru X κ Q c (.bool b :: st) L C l1 | none => False) := k1
    cases z : isW k w with
    | none => rw [z] at k1; exact False.elim k1
    | some b => rw [z] at k1; exact ⟨b, by rw [r1.tag]; exact z, .mk (w := .bool b) g1 rfl h1 k1⟩
   | _ => exact False.elim h4
  | false =>
   rw [q] at h
   obtain ⟨b, e, h⟩ := opt_ok h
   exact bt (t := false) e h rfl
 | type id =>
  obtain ⟨b, e, h⟩ := opt_ok h
  exact bt (t := true) e h rfl
 | ref a =>
  obtain ⟨k, h⟩ := ifc_ok h
  have k := (Bool.and_eq_true _ _).mp k
  have q := (args_ok hE ks h rl rh).mono (Q := fun vs H' => WC X κ.n (.ref a) vs H' (PW F fun w l' => ru X κ Q c (w :: st) L C l')) fun vs H1 p => p.rec fun g r h n k' => fn_ok k.2 n k' r h g
  cases es with
  | nil => exact we_call0 (.of hg) k.1 (fn_ok (ws := []) k.2 rfl h rfl rh .rfl)
  | cons e r => exact we_call (.of hg) k.1 q (fun env => he env _ _ rfl) (fun env pos => star_any (ht _ _ rfl))
 | _ => exact False.elim h
noncomputable abbrev Lmc (T : String) (v : V) (H : Hp) : Prop := ∃ a, v = .ref a /\ ∃ c, H a = some c /\ (match c with | .list _ => T = "list" | .dict _ _ => T = "dict" | _ => False)
theorem lm_ok {t : Bool} {w : W} {v : V} (h : ru X κ Q (.lm t c) (w :: st) L C l) (r : RV F w v) (rh : RH F l H) : Lmc (bif t then "list" else "dict") v H /\ ru X κ Q c (w :: st) L C l := by
 obtain ⟨a, rfl, h⟩ := ref_ok h
 obtain ⟨n, x, e, h⟩ := h.get
 have q := rh.get e
 rw [show v = _ from r]
 induction t with
 | true => induction x with
  | list y => obtain ⟨vs, q, _⟩ := q; exact ⟨⟨a, rfl, _, q, rfl⟩, h⟩
  | il y => exact ⟨⟨a, rfl, _, q, rfl⟩, h⟩
  | _ => exact False.elim h
 | false => induction x with
  | dict y => obtain ⟨vs, ep, q, _⟩ := q; exact ⟨⟨a, rfl, _, q, rfl⟩, h⟩
  | fdict y => obtain ⟨vs, ep, q, _⟩ := q; exact ⟨⟨a, rfl, _, (rh.fz _ _ q).1, rfl⟩, h⟩
  | _ => exact False.elim h
theorem lmO_ok {x : Str} {o : Expr} {t} (h : lmO x o = some t) : (t = .ap /\ x = "append") \/ (t = .ex /\ x = "extend") \/ (t = .pp /\ x = "pop") \/ (t = .dg /\ x = "get") := by
 unfold lmO at h
 cases q1 : x == lmO.s1 with
 | true => rw [q1] at h; cases h; exact .inl ⟨rfl, eq_of_beq q1⟩
 | false =>
  rw [q1] at h
  cases q2 : x == lmO.s2 with
  | true => rw [q2] at h; cases h; exact .inr (.inl ⟨rfl, eq_of_beq q2⟩)
  | false =>
   rw [q2] at h
   cases q3 : x == lmO.s3 && !isNm o with
   | true => rw [q3] at h; cases h; exact .inr (.inr (.inl ⟨rfl, eq_of_beq ((Bool.and_eq_true _ _).mp q3).1⟩))
   | false =>
    rw [q3] at h
    cases q4 : x == lmO.s4 with
    | true => rw [q4] at h; cases h; exact .inr (.inr (.inr ⟨rfl, eq_of_beq q4⟩))
    | false => rw [q4] at h; cases h
theorem callA_ok (hE : HE X κ E) (G : Gd X) {o : Expr} {x : Str} {es : List Expr} {apos pos : Pos} (h : ru X κ Q (cCallA κ.n E o x es c) st L C l) (ks : es.all noStar = true) (h2 : noSup o = true) (h3 : (apos.endLine == pos.line) = true) (h4 : es.length < 30) (rl : Rl F L C fr) (rh : RH F l H) :
  WE X κ.n κ.fi κ.env fr (.Call (.Attribute o x apos) es [] pos) H (PW F fun w l' => ru X κ Q c (w :: st) L C l') := by
 have he := fun env => meth_tree (x := x) ks h2 h3 h4 env
 have hp := fun env pos => star_any (env := env) (pos := pos) ks
 unfold cCallA at h
 cases e : lmO x o with
 | some t =>
  rw [e] at h
  rcases lmO_ok e with ⟨rfl, rfl⟩ | ⟨rfl, rfl⟩ | ⟨rfl, rfl⟩ | ⟨rfl, rfl⟩
  ·obtain ⟨e1, rfl, h⟩ := one_ok h
   refine we_meth PySem.F.plainAttrs_list PySem.F.slot_list_append PySem.F.type_list_append (weW (hE h rl rh) fun {F1 w1 l1 v1 H1} g1 r1 h1 k1 => ?_) he hp
   obtain ⟨q, k1⟩ := lm_ok k1 r1 h1
   refine ⟨q, wes_cons (weW (hE k1 (rl.up g1) h1) fun {F2 w2 l2 v2 H2} g2 r2 h2 k2 => wes_nil ?_) (star_cons ((Bool.and_eq_true _ _).mp ks).1 _ _)⟩
   obtain ⟨a, rfl, k2⟩ := ref_ok k2
   rw [show v1 = _ from r1]
   exact app_ok (k := fun l => ru X κ Q c (.none :: st) L C l) k2.get r2 h2 (g1.trans g2) fun O h => h
  ·obtain ⟨e1, rfl, h⟩ := one_ok h
   refine we_meth PySem.F.plainAttrs_list PySem.F.slot_list_extend PySem.F.type_list_extend (weW (hE h rl rh) fun {F1 w1 l1 v1 H1} g1 r1 h1 k1 => ?_) he hp
   obtain ⟨q, k1⟩ := lm_ok k1 r1 h1
   refine ⟨q, wes_cons (weW (hE k1 (rl.up g1) h1) fun {F2 w2 l2 v2 H2} g2 r2 h2 k2 => wes_nil ?_) (star_cons ((Bool.and_eq_true _ _).mp ks).1 _ _)⟩
   obtain ⟨a, rfl, k2⟩ := ref_ok k2
   rw [show v1 = _ from r1]
   exact ext_ok (k := fun l => ru X κ Q c (.none :: st) L C l) k2 r2 h2 (g1.trans g2) fun O h => h
  ·obtain ⟨rfl, h⟩ := emp_ok h
   refine we_meth PySem.F.plainAttrs_list PySem.F.slot_list_pop PySem.F.type_list_pop (weW (hE h rl rh) fun {F1 w1 l1 v1 H1} g1 r1 h1 k1 => ?_) he hp
   obtain ⟨q, k1⟩ := lm_ok k1 r1 h1
   refine ⟨q, wes_nil ?_⟩
   obtain ⟨a, rfl, k2⟩ := ref_ok k1
   rw [show v1 = _ from r1]
   exact pop_ok (k := fun v l => ru X κ Q c (v :: st) L C l) k2.get h1 g1 fun O O h => h
  ·refine we_meth PySem.F.plainAttrs_dict PySem.F.slot_dict_get PySem.F.type_dict_get (weW (hE h rl rh) fun {F1 w1 l1 v1 H1} g1 r1 h1 k1 => ?_) he hp
   obtain ⟨q, k1⟩ := lm_ok k1 r1 h1
   refine ⟨q, (args_ok hE ks k1 (rl.up g1) h1).mono fun vs H2 p => p.rec fun {F2 ws l2} g2 r2 h2 n k => ?_⟩
   have k := popN_ok (k := fun vs st => top1 st fun o st => dous vs (fun i d => intK i (fun i => rdD o l2 fun y => Stp (∃ v, (lkG y i).getD d = v /\ ru X κ Q c (v :: st) L C l2)) False)
    (sol vs fun i => intK i (fun i => rdD o l2 fun y => Stp (∃ v, (lkG y i).getD .none = v /\ ru X κ Q c (v :: st) L C l2)) False)) n k
   rcases dous_ok k with ⟨i, d, rfl, k⟩ | k
   ·obtain ⟨u, v, rfl, ri, rd⟩ := r2.dou
    obtain ⟨i, rfl, k⟩ := int1 k ri
    exact get2_ok (k := fun v => ru X κ Q c (v :: st) L C l2) k (r1.up g2) rd h2 (g1.trans g2) fun O h => h
   ·obtain ⟨i, v, rfl, ri, k⟩ := sol1 k r2
    refine cps fun G0 z0 => ?_
    obtain ⟨i, rfl, k⟩ := int1 k ri
    refine z0 ?_
    clear z0
    exact get1_ok (k := fun v => ru X κ Q c (v :: st) L C l2) k (r1.up g2) h2 (g1.trans g2) fun O h => h
 | none =>
  rw [e] at h
  refine cps fun G0 z0 => ?_
  obtain ⟨m, e1, h⟩ := opt_ok h
  obtain ⟨hn, h⟩ := ifc_ok h
  refine z0 ?_
  clear z0
  have e1 := idx_ok e1
  have hm : m < 8 := (List.getElem?_eq_some_iff.mp e1).1
  have e1 : mnm.getD m "?" = x := by rw [List.getD_eq_getElem?_getD, e1]; rfl
  refine we_mcall (weW (hE h rl rh) fun {F1 w1 l1 v1 H1} g1 r1 h1 k1 => ?_) he hp
  obtain ⟨a, rfl, k1⟩ := ref_ok k1
  rw [show v1 = _ from r1]
  refine cps fun G0 z0 => ?_
  obtain ⟨i, y, e, k1⟩ := k1.get
  refine z0 ?_
  clear z0
  induction y with
  | obj B d kvs =>
   have k1 : (bif Nat.beq B (mfn m).1 && noK (mat m) kvs then ru X κ Q (args E es (.f (mfn m).2 (es.length + 1) c)) (.ref a :: st) L C l1 else False) := k1
   cases z : (Nat.beq B (mfn m).1 && noK (mat m) kvs) with
   | false => rw [z] at k1; exact False.elim k1
   | true =>
    rw [z] at k1
    have z := (Bool.and_eq_true _ _).mp z
    refine cps fun G0 z0 => ?_
    obtain ⟨q1, kv, q2, q3, q4⟩ := h1.get e
    refine z0 ?_
    clear z0
    refine ⟨a, B, d, kv, (mfn m).2, rfl, q1, q2, e1 ▸ lkA_miss hm z.2 q3, ?_, (args_ok hE ks k1 (rl.up g1) h1).mono fun vs H2 p => p.rec fun {F2 ws l2} g2 r2 h2 n k => ?_⟩
    ·rw [Nat.eq_of_beq_eq_true z.1, <- e1]; exact G.met m hm
    ·exact fn_ok (ws := .ref a :: ws) hn (congrArg (· + 1) n) (by rw [List.reverse_cons, List.append_assoc]; exact k) ⟨_, _, rfl, rfl, r2⟩ h2 (g1.trans g2)
  | _ => exact False.elim k1
theorem call_ok (hE : HE X κ E) (G : Gd X) {f : Expr} {es : List Expr} {kws : List Keyword} {p : Pos} (h : ru X κ Q (cCall X.K κ.n E κ.fi.G f es kws p c) st L C l) (rl : Rl F L C fr) (rh : RH F l H) : WE X κ.n κ.fi κ.env fr (.Call f es kws p) H (PW F fun w l' => ru X κ Q c (w :: st) L C l') := by
 obtain ⟨e0, h1⟩ := emp_ok h
 clear h
 subst e0
 obtain ⟨ks, h⟩ := ifc_ok h1
 clear h1
 have z := ev_ok f
 revert h z
 generalize ev f = v
 intro h z
 cases v with
 | nm x p =>
  subst z
  exact callN_ok hE h ks rl rh
 | at_ o x ap =>
  subst z
  obtain ⟨k, h⟩ := ifc_ok h
  have k := (Bool.and_eq_true _ _).mp k
  have k' := (Bool.and_eq_true _ _).mp k.1
  exact callA_ok hE G h ks k'.1 k'.2 (of_decide_eq_true k.2) rl rh
 | _ => exact False.elim h
end
end
section
theorem g_ok {F : Fz} {C : LW} : ∀ {fc : Ls} {i : Nat} {p}, RL F C fc -> fc[i]? = some p -> RL F (C.g i) [p] := by
 induction C with
 | nil => exact fun {fc i p} h e => by rw [show fc = [] from h] at e; exact none_no (List.getElem?_nil.symm.trans e)
 | o r ih => exact fun {fc i p} => i.rec (fun O O => ⟨p, [], rfl, rfl⟩) fun i O q => q.elim fun O q => q.elim fun O q => q.1 ▸ fun e => ih (i := i) q.2 e
 | s w r ih => exact fun {fc i p} => i.rec (fun q => q.elim fun O q => q.elim fun O q => q.elim fun O q => q.1 ▸ fun e => Option.some.inj e ▸ ⟨_, _, [], rfl, q.2.1, rfl⟩) fun i O q => q.elim fun O q => q.elim fun O q => q.elim fun O q => q.1 ▸ fun e => ih (i := i) q.2.2 e
theorem idx_some {x : Str} {l : List Str} : x ∈ l -> ∃ i, idx x l = some i := by
 induction l with
 | nil => exact fun h => nil_no h
 | cons y r ih =>
  intro h
  rw [idx_c]
  cases q : y == x with
  | true => exact ⟨0, rfl⟩
  | false => exact (List.mem_cons.mp h).elim (fun e => nomatch q.symm.trans (e ▸ BEq.rfl : (y == x) = true)) fun h => (ih h).elim fun i e => ⟨i + 1, congrArg (Option.map _) e⟩
theorem pk_ok {F : Fz} {C : LW} {fc : Ls} {nm : List Str} (r : RL F C fc) (e : fc.map (·.1) = nm) {R : List Str} : (∀ y ∈ R, y ∈ nm) -> ∃ C' : Ls, C'.map (·.1) = R /\ (∀ p ∈ C', p ∈ fc) /\ RL F (C.pk (R.map fun y => (idx y nm).getD 0)) C' := by
 induction R with
 | nil => exact fun O => ⟨[], rfl, fun p h => (nil_no h), rfl⟩
 | cons y R ih =>
  intro h
  refine cps fun G0 z0 => ?_
  obtain ⟨i, ei⟩ := idx_some (h y (.head _))
  have e2 := idx_ok ei
  rw [<- e, List.getElem?_map] at e2
  obtain ⟨p, e3, e4⟩ := Option.map_eq_some_iff.mp e2
  obtain ⟨C', a, b, c⟩ := ih fun z hz => h z (.tail _ hz)
  refine z0 ?_
  clear z0
  have g := g_ok r e3
  refine ⟨p :: C', by rw [List.map_cons, a, e4], fun q hq => (List.mem_cons.mp hq).elim (fun z => z ▸ List.mem_of_getElem? e3) (b q), ?_⟩
  rw [List.map_cons, ei]
  show RL F (match C.g i with | .s w _ => .s w (C.pk _) | _ => .o (C.pk _)) (p :: C')
  generalize C.g i = z at g
  clear e3 e4
  induction z with
  | nil => exact ⟨p, C', rfl, c⟩
  | o => exact ⟨p, C', rfl, c⟩
  | s => obtain ⟨x, v, _, q, a, _⟩ := g; cases q; exact ⟨x, v, C', rfl, a, c⟩
theorem set_plain {i : Expr} (h : noSet i = true) (env : Env) (x : Value) : foldedSetIterable i env x = pure x := by
 cases i with
 | Set => cases h
 | _ => rfl
inductive IV (F : Fz) (I : List W -> List W -> Hl -> Prop) (r d : List V) (H : Hp) : Prop
 | mk {F' rw' dw l} (g : Fle F F') (r : RVs F' rw' r) (d : RVs F' dw d) (h : RH F' l H) (i : I rw' dw l)
noncomputable def OkE (X : Wd) (ask : Bool) (m : Nat) : Prop := ∀ κ, HE X κ fun e c => cE X.K κ.n ask m κ.fi false e c .bad
noncomputable def OkT (X : Wd) (ask : Bool) (m : Nat) : Prop := ∀ κ, HT X κ fun e a b => cE X.K κ.n ask m κ.fi true e a b
section
variable {X : Wd} {ask : Bool} {m : Nat} (hE : OkE X ask m) (hT : OkT X ask m) {κ : Kx} {Q : Qt} {c : Cd} {st : List W} {L C : LW} {l : Hl} {F : Fz} {fr : Frame} {H : Hp}
include hE hT
theorem comp_ok {elt : Expr} {gs : List Comprehension} {sc : Scope} {p} (h : ru X κ Q (cE X.K κ.n ask (m + 1) κ.fi false (.ListComp elt gs sc p) c .bad) st L C l) (rl : Rl F L C fr) (rh : RH F l H) : WE X κ.n κ.fi κ.env fr (.ListComp elt gs sc p) H (PW F fun w l' => ru X κ Q c (w :: st) L C l') := by
 refine cps fun G0 z0 => ?_
 obtain ⟨g, rfl, h2⟩ := one_ok h
 obtain ⟨x, ex, h2⟩ := opt_ok h2
 obtain ⟨k, h2⟩ := ifc_ok h2
 clear h
 rw [Bool.and_eq_true, Bool.and_eq_true, Bool.and_eq_true] at k
 obtain ⟨⟨⟨k1, k2⟩, k3⟩, k4⟩ := k
 obtain ⟨tg, iter, ifs, as⟩ := g
 refine z0 ?_
 clear z0
 have e0 : as = 0 := eq_of_beq k1
 have e1 : tg = .Name x.1 x.2 := nmO_ok ex
 subst e0 e1
 refine we_fr fun nL nC => ?_
 refine cps fun G0 z0 => ?_
 obtain ⟨C', p1, p2, p3⟩ := pk_ok rl.c nC (R := innerR sc) fun y hy => List.contains_iff_mem.mp (List.all_eq_true.mp k3 y hy)
 refine z0 ?_
 clear z0
 refine we_lcomp (G := innerG X.K sc) (C' := C') (by rw [p1]; exact k2) gvs_ok p2 ?_ (set_plain k4 _)
 rw [p1]
 refine weW (hE κ h2 rl rh) fun {F1 w1 l1 v1 H1} g1 r1 h1 q1 => ?_
 refine cps fun G0 z0 => ?_
 obtain ⟨ws, l2, I, hi, h0, hend, hstep⟩ := Stp.get q1
 refine z0 ?_
 clear z0
 obtain ⟨F2, vs, K, g2, rh2, rvs, wit, hK⟩ := its_ok hi r1 h1
 refine ⟨vs, K, IV F2 I, wit _, .mk (dw := []) .rfl rvs rfl rh2 h0, fun r d H' q => q.rec fun g O O h O => hK _ _ _ g h, fun d H' a q ha => q.rec fun {F3 rw' dw l3} g3 r3 d3 h3 i3 => ?_, fun v r d H' cenv q => q.rec fun {F3 rw' dw l3} g3 r3 d3 h3 i3 => ?_⟩
 ·induction rw' with
  | cons => obtain ⟨_, _, z, _⟩ := r3; cases z
  | nil =>
   rcases hend _ _ i3 with k | ⟨ns, rfl, k⟩
   ·exact newL h3 ((g1.trans g2).trans g3) d3 k ha
   ·rw [d3.intsI]; exact newI h3 ((g1.trans g2).trans g3) k ha
 ·cases rw' with
  | nil => cases (show _ = _ from r3)
  | cons w rw' =>
   refine cps fun G0 z0 => ?_
   obtain ⟨v', r', z, rv, r3⟩ := r3
   cases z
   obtain ⟨hd, hs⟩ := hstep w rw' dw l3 i3
   refine z0 ?_
   clear z0
   have hs := hs cenv
   have hr : Rl F3 (.s w .nil) (C.pk ((innerR sc).map fun y => (idx y (κ.fi.C ++ κ.fi.R)).getD 0)) ⟨[(x.1, some v)], C'⟩ := ⟨⟨_, _, [], rfl, rv, rfl⟩, p3.up ((g1.trans g2).trans g3)⟩
   have hd' : d.length <= 10000000 := by rw [d3.len]; exact hd
   have fin : ∀ {F4 w4 l4 v4 H4}, Fle F3 F4 -> RV F4 w4 v4 -> RH F4 l4 H4 -> CQ (I rw') dw (.ret w4) (.s w .nil) (C.pk ((innerR sc).map fun y => (idx y (κ.fi.C ++ κ.fi.R)).getD 0)) l4 -> IV F2 I r (d ++ [v4]) H4 := fun g4 r4 h4 q => by
    cases q with
    | ret q => exact .mk (g3.trans g4) (r3.up g4) ((d3.up g4).app (ws' := [_]) ⟨_, [], rfl, r4, rfl⟩) h4 q
   clear h2 ex k1 k4 hstep q1
   cases ifs with
   | nil => exact wf_nil ⟨fun O => ⟨hd', weW (hE ⟨κ.n, _, cenv⟩ hs hr h3) fin⟩, fun z => by cases z⟩
   | cons t ts =>
    obtain ⟨rfl, hs⟩ := emp_ok hs
    refine wf_one (wtW (hT ⟨κ.n, _, cenv⟩ hs hr h3) fun {F4 b l4 H4} g4 h4 q4 => ⟨fun z => ⟨hd', weW (hE ⟨κ.n, _, cenv⟩ (q4.1 z) (hr.up g4) h4) fun g5 r5 h5 q5 => fin (g4.trans g5) r5 h5 q5⟩, fun z => ?_⟩)
    have q := q4.2 z
    cases (show CQ (I rw') dw .cont _ _ l4 from q) with
    | cont q => exact .mk (g3.trans g4) (r3.up g4) (d3.up g4) h4 q
theorem okE_step (G : Gd X) : OkE X ask (m + 1) := by
 intro κ Q e c st L C l F fr H h rl rh
 cases e with
 | Constant k a p => exact konst_ok h rh
 | Name x p => exact name_ok h rl rh
 | BinOp a o b p => exact bin_ok (hE κ) h rl rh
 | UnaryOp o x p =>
  induction o with
  | USub =>
   exact we_neg (weW (hE κ h rl rh) fun g r h k => by
    obtain ⟨x, rfl, k⟩ := int1 k r
    exact op_neg (.mk (w := .int _) g rfl h k))
  | Not =>
   exact we_not (weW (hE κ h rl rh) fun {F1 w1 l1 v1 H1} g r h k => by
    obtain ⟨x, rfl, k⟩ := bool_ok k
    rw [show v1 = _ from r]
    exact tr_bool (.mk (w := .bool _) g rfl h k))
  | _ => exact False.elim h
 | BoolOp op es p =>
  induction op with
  | And => exact we_bool' (ands_ok (hE κ) h rl rh)
  | _ => exact False.elim h
 | Compare a os bs p =>
  cases os with
  | nil => exact False.elim h
  | cons o os => cases bs with
   | nil => exact False.elim h
   | cons b bs => cases os with
    | nil =>
     obtain ⟨rfl, h⟩ := emp_ok h
     obtain ⟨hm, h⟩ := ifc_ok h
     exact we_cmp (cmpA (hE κ) h rl rh fun g r h k => .mk g r h k) (by simpa using hm)
    | cons o' os =>
     obtain ⟨e1, h2⟩ := emp_ok h
     obtain ⟨b', e2, h3⟩ := one_ok h2
     obtain ⟨hm, h4⟩ := ifc_ok h3
     clear h h2 h3
     subst e1 e2
     exact we_cmp2 (cmpB (hE κ) h4 rl rh (fun g r h k => .mk g r h k) fun g h k => .mk (w := .bool false) g rfl h k) (by simpa using hm)
 | IfExp t a b p => exact we_if (wtW (hT κ h rl rh) fun g h k => ⟨fun z => weW (hE κ (k.1 z) (rl.up g) h) fun g2 r h k => .mk (g.trans g2) r h k, fun z => weW (hE κ (k.2 z) (rl.up g) h) fun g2 r h k => .mk (g.trans g2) r h k⟩)
 | Tuple es k p =>
  obtain ⟨w, h⟩ := ifc_ok h
  have w := (Bool.and_eq_true _ _).mp w
  exact we_tuple ((args_ok (hE κ) w.1 h rl rh).mono fun vs H1 q => q.rec fun {F1 ws l1} g r h n k => ⟨by rw [r.len, n]; exact of_decide_eq_true w.2, .mk (w := .tup ws) g ⟨_, rfl, r⟩ h (popN_ok (k := fun vs st => ru X κ Q c (.tup vs :: st) L C l1) n k)⟩)
 | List es p =>
  obtain ⟨w, h⟩ := ifc_ok h
  have w := (Bool.and_eq_true _ _).mp w
  refine we_list ((args_ok (hE κ) w.1 h rl rh).mono fun vs H1 q => q.rec fun {F1 ws l1} g r h9 n k => ⟨by rw [r.len, n]; exact of_decide_eq_true w.2, fun a ha => ?_⟩)
  clear h
  clear q
  induction ask with
  | true => exact (popN_ok (k := fun vs st => Stp (Mk vs l1 fun v l => ru X κ Q c (v :: st) L C l)) n k).get.ok h9 r g ha
  | false =>
   have k := popN_ok (k := fun vs st => match toI vs with | some ns => ru X κ Q c (.il ns :: st) L C l1 | none => ru X κ Q c (.lst vs :: st) L C l1) n k
   cases z : toI ws with
   | none => rw [z] at k; exact newL h9 g r k ha
   | some ns => rw [z] at k; rw [RVs.toT (toI_ok z) r]; exact newI h9 g k ha
 | Dict ks vs p => exact dict_ok (hE κ) h rl rh
 | Attribute o x p => exact att_ok (hE κ) G h rl rh
 | Subscript o i p => exact sub_ok (hE κ) h rl rh
 | Call f es ks p => exact call_ok (hE κ) G h rl rh
 | ListComp elt gs sc p => exact comp_ok hE hT h rl rh
 | _ => exact False.elim h
theorem okT_step : OkT X ask (m + 1) := by
 intro κ Q e a b st L C l F fr H h rl rh
 have val : ∀ {e : Expr}, (∀ whole, isTrue e κ.env whole = (do let v <- whole; standAt e.pos; holding [v] (truthy v))) -> ru X κ Q (cE X.K κ.n ask m κ.fi false e (.br a b) .bad) st L C l -> WT X κ.n κ.fi κ.env fr e H (PT F fun x l' => (x = true -> ru X κ Q a st L C l') /\ (x = false -> ru X κ Q b st L C l')) :=
  fun he h => wt_val (weW (hE κ h rl rh) fun g r h k => br_ok k r h g) he
 cases e with
 | UnaryOp o x p =>
  induction o with
  | Not => exact wt_not (wtW (hT κ h rl rh) fun g h k => ⟨g, h, fun z => k.2 (by simpa using z), fun z => k.1 (by simpa using z)⟩)
  | _ => exact False.elim h
 | BoolOp op es p => exact wt_bool (tests_ok (hT κ) h rl rh)
 | Compare x os bs p =>
  cases os with
  | nil => exact False.elim h
  | cons o os => cases bs with
   | nil => exact False.elim h
   | cons y bs => cases os with
    | nil =>
     obtain ⟨rfl, h⟩ := emp_ok h
     obtain ⟨hm, h⟩ := ifc_ok h
     exact wt_cmp (cmpA (hE κ) h rl rh fun g r h k => br_ok k r h g) (by simpa using hm)
    | cons o' os =>
     obtain ⟨e1, h2⟩ := emp_ok h
     obtain ⟨b', e2, h3⟩ := one_ok h2
     obtain ⟨hm, h4⟩ := ifc_ok h3
     clear h h2 h3
     subst e1 e2
     refine wt_cmp2 ?_ (by simpa using hm)
     exact (cmpB (d := .drp b) (hE κ) h4 rl rh (Q2 := fun O H' => PT F (fun x l' => (x = true -> ru X κ Q a st L C l') /\ (x = false -> ru X κ Q b st L C l')) false H') (fun g r h k => br_ok k r h g) fun g h k => ⟨g, h, fun z => (by cases z), fun O => k⟩)
 | Name x p => exact val (fun O => rfl) h
 | Call f es ks p => exact val (fun O => rfl) h
 | _ => exact False.elim h
end
theorem okET {X : Wd} {ask : Bool} (G : Gd X) : ∀ m, OkE X ask m /\ OkT X ask m
 | 0 => ⟨fun κ O O O O O O O O O O h => False.elim h, fun κ O O O O O O O O O O O h => False.elim h⟩
 | m + 1 => ⟨okE_step (okET G m).1 (okET G m).2 G, okT_step (okET G m).1 (okET G m).2⟩
end
section
theorem nms_ok {ts : List Expr} : ∀ {ns : List (Str × Pos)}, nms ts = some ns -> ts = ns.map fun p => .Name p.1 p.2 := by
 induction ts with
 | nil => exact fun e => Option.some.inj e ▸ rfl
 | cons e r ih => exact fun h => (Option.bind_eq_some_iff.mp h).elim fun p h => (Option.map_eq_some_iff.mp h.2).elim fun l q => q.2 ▸ nmO_ok h.1 ▸ congrArg (_ :: ·) (ih q.1)
theorem swaps_no {v : Expr} (h : noComp v = true) (t : Option Expr) (l : Nat) (env : Env) : swapsWith v t l env = pure false := by
 cases v with
 | ListComp => cases h
 | SetComp => cases h
 | DictComp => cases h
 | _ => rfl
theorem fm_all {α β : Type} {f : α -> Option β} {g : α -> β} {l : List α} : (∀ a ∈ l, f a = some (g a)) -> l.filterMap f = l.map g := by
 induction l with
 | nil => exact fun O => rfl
 | cons a l ih => exact fun h => (List.filterMap_cons_some (h a (.head _))).trans (congrArg (_ :: ·) (ih fun b hb => h b (.tail _ hb)))
theorem fm_lt {f : Expr -> Option Str} (hf : ∀ e, isNm e = false -> f e = none) {l : List Expr} : (l.any fun e => !isNm e) = true -> (l.filterMap f).length < l.length := by
 induction l with
 | nil => exact fun h => ff_no h
 | cons e r ih =>
  intro h
  have le := List.length_filterMap_le f r
  cases w : f e with
  | none => rw [List.filterMap_cons_none w]; exact Nat.lt_succ_of_le le
  | some x =>
   rw [List.filterMap_cons_some w]
   refine Nat.succ_lt_succ (ih (((Bool.or_eq_true _ _).mp h).elim (fun q => ?_) id))
   exact none_no ((hf e (Bool.not_eq_true' _ ▸ q)).symm.trans w)
theorem swap_is {ts vs : List Expr} {k p k' p'} {env : Env} : ∃ (f : Expr -> Option Str) (g : Expr -> Bool), (∀ x q, f (.Name x q) = if (env.kindOf x == some .local && q.line == (ts.head?.map (·.pos.line)).getD 0) = true then some x else none) /\ (∀ e, isNm e = false -> f e = none) /\ (∀ e, noStar e = true -> g e = false) /\
  swappedStores [.Tuple ts k p] (.Tuple vs k' p') env = (if (!(ts.length == 2 || ts.length == 3) || vs.length != ts.length || env.blockKind != .function) = true then pure none else if vs.any g = true then pure none else
   if ((ts.filterMap f).length != ts.length || (ts.filterMap f).eraseDups.length != (ts.filterMap f).length) = true then pure none else if vs.all (foldedForSure 8) = true then pure none else if vs.all (constantsAlone 8) = true then unsupported "assign.tuple-of-constant-expressions:order-of-the-stores" else pure (some (ts.filterMap f))) := by
 refine ⟨_, _, ?_, ?_, ?_, rfl⟩
 ·exact fun O O => rfl
 ·intro e h
  cases e with
  | Name => cases h
  | _ => rfl
 ·intro e h
  cases e with
  | Starred => cases h
  | _ => rfl
theorem swap_yes {X : Wd} {fi : FI} {env : Env} {ns : List (Str × Pos)} {vs : List Expr} {k p k' p'} (h : swOK fi ns vs = true) (E : EnvOK X env fi) : swappedStores [.Tuple (ns.map fun p => .Name p.1 p.2) k p] (.Tuple vs k' p') env = pure (some (ns.map (·.1))) := by
 unfold swOK at h
 simp only [Bool.and_eq_true, Bool.not_eq_true'] at h
 refine cps fun G0 z0 => ?_
 obtain ⟨⟨⟨⟨⟨⟨h1, h2⟩, h3⟩, h4⟩, h5⟩, h6⟩, h7⟩ := h
 refine z0 ?_
 clear z0
 have e3 : env.blockKind = .function := by unfold Env.blockKind; rw [E.kind]; rfl
 have hl : (((ns.map fun p => Expr.Name p.1 p.2).head?).map (·.pos.line)).getD 0 = ((ns.map (·.2.line)).head?).getD 0 := by induction ns <;> rfl
 obtain ⟨f, g, f1, f2, g1, e⟩ := swap_is (ts := ns.map fun p => Expr.Name p.1 p.2) (vs := vs) (k := k) (p := p) (k' := k') (p' := p') (env := env)
 have hf : (ns.map fun p => Expr.Name p.1 p.2).filterMap f = ns.map (·.1) := by
  rw [List.filterMap_map]
  refine fm_all fun q hq => ?_
  have := (Bool.and_eq_true _ _).mp (List.all_eq_true.mp h4 q hq)
  refine (f1 _ _).trans (if_pos ?_)
  rw [hl, (E.ln q.1 (List.contains_iff_mem.mp this.1)).1, this.2]; rfl
 rw [e, if_neg (by rw [List.length_map, h1, bne, h2, e3]; exact Bool.false_ne_true), if_neg, hf, List.length_map, List.length_map, if_neg (by simp only [bne, bne, h5, beq_self_eq_true]; exact Bool.false_ne_true), h6, if_neg Bool.false_ne_true, h7, if_neg Bool.false_ne_true]
 rw [Bool.not_eq_true, List.any_eq_false]
 exact fun e he => Bool.not_eq_true _ ▸ g1 e (List.all_eq_true.mp h3 e he)
theorem swap_no {env : Env} {ts vs : List Expr} {k p k' p'} (h : swNo ts = true) : swappedStores [.Tuple ts k p] (.Tuple vs k' p') env = pure none := by
 obtain ⟨f, g, f1, f2, g1, e⟩ := swap_is (ts := ts) (vs := vs) (k := k) (p := p) (k' := k') (p' := p') (env := env)
 rw [e]
 clear e
 refine (Decidable.em _).elim (fun c => if_pos c) fun h2 => (if_neg h2).trans ?_
 refine (Decidable.em _).elim (fun c => if_pos c) fun O => (if_neg O).trans (if_pos ?_)
 rw [Bool.or_eq_true]
 refine .inl (bne_iff_ne.mpr (Nat.ne_of_lt (fm_lt f2 ?_)))
 rcases (Bool.or_eq_true _ _).mp h with h | h
 ·rw [h] at h2; exact absurd rfl h2
 ·exact h
theorem swap_none {t v : Expr} {env : Env} (h : tupE t = none \/ tupE v = none) (ht : isLst t = false) : swappedStores [t] v env = pure none := by
 cases t with
 | Tuple ts k p => cases v with
  | Tuple vs k' p' => rcases h with h | h <;> cases h
  | _ => rfl
 | List => cases ht
 | _ => rfl
theorem asg_cons {e : Expr} (h : noStar e = true) (es : List Expr) (env : Env) : assignEach (e :: es) env = (false, assign e env) :: assignEach es env := by
 cases e with
 | Starred => cases h
 | _ => rfl
theorem asg_len {env : Env} {es : List Expr} : es.all noStar = true -> (assignEach es env).length = es.length /\ (assignEach es env).findIdx? (·.1) = none := by
 induction es with
 | nil => exact fun O => ⟨rfl, rfl⟩
 | cons e es ih =>
  intro h
  have h := (Bool.and_eq_true _ _).mp h
  rw [asg_cons h.1, List.length_cons, List.length_cons, List.findIdx?_cons, (ih h.2).1, (ih h.2).2]
  exact ⟨rfl, rfl⟩
theorem own_go {t : Expr} (h : isTup t = false) (h2 : isLst t = false) (it v : Value) : letOwnedTupleGo t it v = pure () := by
 cases t with
 | Tuple => cases h
 | List => cases h2
 | _ => rfl
theorem tupE_ok {e : Expr} {ts} (h : tupE e = some ts) : ∃ k p, e = .Tuple ts k p := by
 have k := ev_ok e
 revert h k
 unfold tupE
 generalize ev e = v
 intro h k
 cases v with
 | tu => cases h; exact k
 | _ => exact none_no h
theorem itemsK_ok {m : Nat} : ∀ {vs st : List W} {k : List W -> Prop}, itemsK m vs st k -> vs.length = m /\ k (vs ++ st) := by
 induction m with
 | zero => exact fun {vs st k} => vs.casesOn (fun h => ⟨rfl, h⟩) fun O O h => h.elim
 | succ m ih => exact fun {vs st k} => vs.casesOn (fun h => h.elim) fun v r h => (ih h).elim fun a b => ⟨congrArg (· + 1) a, b⟩
theorem PA2.tr {F F0 K fr H} (g : Fle F0 F) (p : PA2 F K fr H) : PA2 F0 K fr H := p.rec fun g' f h k => ⟨g.trans g', f, h, k⟩
section
variable {X : Wd} {ask : Bool} (G : Gd X) {κ : Kx} {Q : Qt} {c : Cd} {st : List W} {L C : LW} {l : Hl} {F : Fz} {fr : Frame} {H : Hp} {w : W} {v : V}
include G
theorem weE {m e} (h : ru X κ Q (cE X.K κ.n ask m κ.fi false e c .bad) st L C l) (rl : Rl F L C fr) (rh : RH F l H) : WE X κ.n κ.fi κ.env fr e H (PW F fun w l' => ru X κ Q c (w :: st) L C l') := (okET G m).1 κ h rl rh
theorem wtE {m e a b} (h : ru X κ Q (cE X.K κ.n ask m κ.fi true e a b) st L C l) (rl : Rl F L C fr) (rh : RH F l H) : WT X κ.n κ.fi κ.env fr e H (PT F fun x l' => (x = true -> ru X κ Q a st L C l') /\ (x = false -> ru X κ Q b st L C l')) := (okET G m).2 κ h rl rh
omit G in
theorem ia_no {C d : Addr} {kv} {P : Prop} (e : some (Cell.inst C d) = some (.attrs kv)) : P := ff_no (congrArg (fun c : Option Cell => match c with | some (.inst _ _) => false | _ => true) e)
omit G in
theorem cA1_loc {K : Frag} {n : Nat} {ask : Bool} {fi : FI} {x : Str} {p : Pos} {i : Nat} (h : idx x fi.L = some i) {c : Cd} : cA1 K n ask fi (.Name x p) c = .sl i c := by
 show (match idx x fi.L with | some i => Cd.sl i c | none => ifc (fi.C.contains x) (opt (idx x (fi.C ++ fi.R)) fun i => .se i c)) = _
 rw [h]
theorem cA1_ok {t : Expr} (h : ru X κ Q (cA1 X.K κ.n ask κ.fi t c) (w :: st) L C l) (rl : Rl F L C fr) (rv : RV F w v) (rh : RH F l H) : WA X κ.n κ.fi κ.env fr t v H (PA2 F fun L C l => ru X κ Q c st L C l) := by
 cases t with
 | Name x p =>
  refine wa_fr fun nL nC => wa_name ?_
  have h : ru X κ Q (match idx x κ.fi.L with | some i => .sl i c | none => ifc (κ.fi.C.contains x) (opt (idx x (κ.fi.C ++ κ.fi.R)) fun i => .se i c)) (w :: st) L C l := h
  cases e : idx x κ.fi.L with
  | some i =>
   rw [e] at h
   obtain ⟨l', L', p, r, k⟩ := setL_ok rv h rl.l (by rw [nL]; exact idx_ok e)
   exact wn_loc p ⟨.rfl, ⟨r, rl.c⟩, rh, k⟩
  | none =>
   rw [e] at h
   refine cps fun G0 z0 => ?_
   obtain ⟨hc, h⟩ := ifc_ok h
   obtain ⟨i, e, h⟩ := opt_ok h
   obtain ⟨l', L', p, r, k⟩ := setL_ok rv h rl.c (by rw [nC]; exact idx_ok e)
   refine z0 ?_
   clear z0
   exact wn_cel (List.contains_iff_mem.mp hc) p ⟨.rfl, ⟨rl.l, r⟩, rh, k⟩
 | Attribute o x p =>
  obtain ⟨i, e, h⟩ := opt_ok h
  obtain ⟨e, hi⟩ := anm_ok e
  rw [<- e]
  clear e
  refine wa_attr (weW (weE G h rl rh) fun {F1 w1 l1 v1 H1} g r h k => ?_)
  obtain ⟨a, rfl, k⟩ := ref_ok k
  rw [show v1 = _ from r]
  obtain ⟨j, y, e, k⟩ := k.get
  induction y with
  | obj B d kvs =>
   have k : (bif Nat.ble kvs.length 500 && okX B i then ptN kvs i w fun kvs => ru X κ Q c st L C (l1.set j (.obj B d kvs)) else False) := k
   cases z : (Nat.ble kvs.length 500 && okX B i) with
   | false => rw [z] at k; exact False.elim k
   | true =>
    rw [z] at k
    have z := (Bool.and_eq_true _ _).mp z
    refine cps fun G0 z0 => ?_
    obtain ⟨q1, kv, q2, q3, q4⟩ := h.get e
    obtain ⟨kvs', q5, k⟩ := ptN_ok hi (rv.up g) k q3
    refine z0 ?_
    clear z0
    exact sa_inst q1 q2 (G.att B i q4 z.2 hi).2 (by rw [q3.len]; exact Nat.le_of_ble_eq_true z.1) ⟨g, rl.up g, h.upd (y := .obj B d kvs') e (.tail _ (.head _)) rfl ⟨(Hp.set_ne fun q => by rw [q] at q1; exact ia_no (q1.symm.trans q2)).trans q1, _, Hp.set_same _ _ _, q5, q4⟩, k⟩
  | _ => exact False.elim k
 | Subscript o i p =>
  refine wa_sub (weW (weE G h rl rh) fun g1 r1 h1 k1 => weW (weE G k1 (rl.up g1) h1) fun {F2 w2 l2 v2 H2} g2 r2 h2 k2 => ?_)
  obtain ⟨x, rfl, k⟩ := int1 k2 r2
  have q := set_ok (X := X) (n := κ.n) (k := fun l => ru X κ Q c st L C l) k (r1.up g2) (rv.up (g1.trans g2)) h2 (g1.trans g2)
  exact WSI.mono' q fun H3 p => p.rec fun g h k => ⟨g, rl.up g, h, k⟩
 | Constant q => induction q <;> exact False.elim h
 | _ => exact False.elim h
theorem cAs_ok {ts : List Expr} : ∀ {ws : List W} {vs : List V} {st : List W} {L C : LW} {l} {F fr H}, ts.all noStar = true -> ws.length = ts.length -> ru X κ Q (args (cA1 X.K κ.n ask κ.fi) ts c) (ws ++ st) L C l -> Rl F L C fr -> RVs F ws vs -> RH F l H -> WAs X κ.n κ.fi κ.env fr ts vs H (PA2 F fun L C l => ru X κ Q c st L C l) := by
 induction ts with
 | nil => exact fun {ws vs st L C l F fr H} => ws.casesOn (fun O O h rl r rh => (show _ = _ from r) ▸ was_nil ⟨.rfl, rl, rh, h⟩) fun O O O e => (Nat.succ_ne_zero _ e).elim
 | cons t ts ih =>
  exact fun {ws vs st L C l F fr H} => ws.casesOn (fun O e => (Nat.succ_ne_zero _ (Eq.symm e)).elim) fun w ws k e h rl q rh => q.elim fun v q => q.elim fun r q => q.1 ▸
   was_cons ((cA1_ok G h rl q.2.1 rh).mono fun F' H' p => p.rec fun g f h z => (ih ((Bool.and_eq_true _ _).mp k).2 (Nat.succ.inj e) z f (q.2.2.up g) h).mono' fun O O => PA2.tr g) (asg_cons ((Bool.and_eq_true _ _).mp k).1 _ _)
theorem unp_ok {ts : List Expr} {k p} (h : ru X κ Q (unpA X.K κ.n ask κ.fi ts c) (w :: st) L C l) (rl : Rl F L C fr) (rv : RV F w v) (rh : RH F l H) : WA X κ.n κ.fi κ.env fr (.Tuple ts k p) v H (PA2 F fun L C l => ru X κ Q c st L C l) := by
 refine cps fun G0 z0 => ?_
 obtain ⟨hs, h⟩ := ifc_ok h
 obtain ⟨x, vs, rfl, r, h⟩ := tup1 h rv
 obtain ⟨e, q⟩ := itemsK_ok h
 refine z0 ?_
 clear z0
 exact wa_tup (by rw [r.len, e]) (cAs_ok G hs e q rl r rh) fun env => asg_len hs
theorem cA_ok {t : Expr} (h : ru X κ Q (cA X.K κ.n ask κ.fi t c) (w :: st) L C l) (rl : Rl F L C fr) (rv : RV F w v) (rh : RH F l H) : WA X κ.n κ.fi κ.env fr t v H (PA2 F fun L C l => ru X κ Q c st L C l) := by
 unfold cA at h
 cases e : tupE t with
 | some ts =>
  rw [e] at h
  obtain ⟨k, p, rfl⟩ := tupE_ok e
  exact unp_ok G h rl rv rh
 | none => rw [e] at h; exact cA1_ok G h rl rv rh
theorem wns_of {ns : List (Str × Pos)} (hl : ∀ p ∈ ns, p.1 ∈ κ.fi.L) : ∀ {ws : List W} {vs : List V} {st : List W} {L C : LW} {l} {F fr H}, ws.length = ns.length -> ru X κ Q (args (cA1 X.K κ.n ask κ.fi) (ns.map fun p => .Name p.1 p.2) c) (ws ++ st) L C l -> Rl F L C fr -> RVs F ws vs -> RH F l H ->
  WNs X κ.n κ.fi κ.env fr (ns.map (·.1)) vs H (PA2 F fun L C l => ru X κ Q c st L C l) := by
 induction ns with
 | nil =>
  intro ws vs st L C l F fr H e h rl r rh
  cases ws with
  | nil => rw [show vs = [] from r]; exact ⟨.rfl, rl, rh, h⟩
  | cons => cases e
 | cons p ns ih =>
  intro ws vs st L C l F fr H e h rl r rh
  cases ws with
  | nil => cases e
  | cons w ws =>
   refine cps fun G0 z0 => ?_
   obtain ⟨v, r', rfl, a, b⟩ := r
   obtain ⟨i, hi⟩ := idx_some (hl p (.head _))
   refine z0 ?_
   clear z0
   intro E A P s u rm S f
   have h1 : ru X κ Q (.sl i (args (cA1 X.K κ.n ask κ.fi) (ns.map fun p => .Name p.1 p.2) c)) (w :: (ws ++ st)) L C l := by
    rw [<- cA1_loc (K := X.K) (n := κ.n) (ask := ask) (p := p.2) hi]; exact h
   refine cps fun G0 z0 => ?_
   obtain ⟨l', L', p', r2, q⟩ := setL_ok a h1 rl.l (by rw [f.nL]; exact idx_ok hi)
   refine z0 ?_
   clear z0
   exact wn_loc p' (ih (fr := ⟨l', fr.C⟩) (fun q hq => hl q (.tail _ hq)) (Nat.succ.inj e) q ⟨r2, rl.c⟩ b rh) E A P s u rm S f
end
end
section
noncomputable def Kc (X : Wd) (κ : Kx) (Q : Qt) (c : Cd) : Qt := fun f L C l => match f with
 | .next => ru X κ Q c [] L C l
 | f => Q f L C l
theorem wns_mono {X n fi env} {xs : List Str} : ∀ {vs : List V} {F : Frame} {H : Hp} {Q Q' : Frame -> Hp -> Prop}, WNs X n fi env F xs vs H Q -> (∀ F' H', Q F' H' -> Q' F' H') -> WNs X n fi env F xs vs H Q' := by
 induction xs with
 | nil => exact fun {vs F H Q Q'} => vs.casesOn (fun h k => k _ _ h) fun O O h => h.elim
 | cons x xs ih => exact fun {vs F H Q Q'} => vs.casesOn (fun h => h.elim) fun v vs h k E A P s u r S f rv => wpAny_mono (h E A P s u r S f rv) (fun O O p => p.rec fun O O O a b c d e => ⟨_, _, _, a, b, c, d, ih e k⟩) fun O O x => x
theorem PX.tr {F F0 Q fl fr H} (g : Fle F0 F) (p : PX F Q fl fr H) : PX F0 Q fl fr H := p.rec fun g' r f h k => ⟨g.trans g', r, f, h, k⟩
inductive WV (F : Fz) (I : LW -> LW -> Hl -> Prop) (fr : Frame) (H : Hp) : Prop
 | mk {F' L C l} (g : Fle F F') (f : Rl F' L C fr) (h : RH F' l H) (i : I L C l)
inductive FV (F : Fz) (I : List W -> LW -> LW -> Hl -> Prop) (r : List V) (fr : Frame) (H : Hp) : Prop
 | mk {F' rw' L C l} (g : Fle F F') (r : RVs F' rw' r) (f : Rl F' L C fr) (h : RH F' l H) (i : I rw' L C l)
inductive DV (F : Fz) (I : List (Int × W) -> LW -> LW -> Hl -> Prop) (r : List V) (fr : Frame) (H : Hp) : Prop
 | mk {F' rw' kv L C l} (g : Fle F F') (rk : RK F' id rw' kv) (e : r = kv.map itp) (f : Rl F' L C fr) (h : RH F' l H) (i : I rw' L C l)
inductive EV (F : Fz) (I : List W -> List (Int × W) -> Hl -> Prop) (r : List V) (d : List (Int × V)) (H : Hp) : Prop
 | mk {F' rw' dw l} (g : Fle F F') (r : RVs F' rw' r) (d : RK F' id dw d) (h : RH F' l H) (i : I rw' dw l)
section
variable {X : Wd} {ask : Bool} (G : Gd X) {κ : Kx} {Q : Qt} {c : Cd} {L C : LW} {l : Hl} {F : Fz} {fr : Frame} {H : Hp}
noncomputable abbrev Nx (X : Wd) (κ : Kx) (Q : Qt) (c : Cd) (F : Fz) (r : List Stmt) : Fl -> Frame -> Hp -> Prop := fun fl fr H => match fl with
 | .next => WS X κ.n κ.fi κ.env fr r H (PX F (Kc X κ Q c))
 | fl => PX F (Kc X κ Q c) fl fr H
include G
theorem tupA_ok {ts vs : List Expr} {k p k' p' pos} {Q' : Fl -> Frame -> Hp -> Prop} (hq : ∀ {fr H}, PA2 F (fun L C l => ru X κ Q c [] L C l) fr H -> Q' .next fr H)
  (h : ru X κ Q (tupA X.K κ.n ask κ.fi ts vs c) [] L C l) (rl : Rl F L C fr) (rh : RH F l H) : WX X κ.n κ.fi κ.env fr (.Assign [.Tuple ts k p] (.Tuple vs k' p') pos) H Q' := by
 obtain ⟨w, h⟩ := ifc_ok h
 rw [Bool.and_eq_true, Bool.and_eq_true] at w
 refine wx_assign (we_tuple ((args_ok (fun h => weE G h) w.1.2 h rl rh).mono fun us H₁ q => q.rec fun {F1 ws l1} g r h n k => ⟨by rw [r.len, n]; exact of_decide_eq_true w.2, ?_⟩)) rfl (fun O => swap_no w.1.1) rfl
 have k := popN_ok (k := fun vs st => ru X κ Q (unpA X.K κ.n ask κ.fi ts c) (.tup vs :: st) L C l1) n k
 exact (unp_ok G k (rl.up g) (show RV F1 (.tup ws) _ from ⟨us, rfl, r⟩) h).mono fun F' H' q => hq (PA2.tr g q)
theorem sw_ok {ns : List (Str × Pos)} {vs : List Expr} {k p k' p' pos} {Q' : Fl -> Frame -> Hp -> Prop} (hq : ∀ {fr H}, PA2 F (fun L C l => ru X κ Q c [] L C l) fr H -> Q' .next fr H) (w : swOK κ.fi ns vs = true)
  (h : ru X κ Q (args (fun e c => cE X.K κ.n ask 30 κ.fi false e c .bad) vs (args (cA1 X.K κ.n ask κ.fi) (ns.map fun p => Expr.Name p.1 p.2).reverse c)) [] L C l) (rl : Rl F L C fr) (rh : RH F l H) : WX X κ.n κ.fi κ.env fr (.Assign [.Tuple (ns.map fun p => .Name p.1 p.2) k p] (.Tuple vs k' p') pos) H Q' := by
 have w' := w
 unfold swOK at w'
 simp only [Bool.and_eq_true] at w'
 refine cps fun G0 z0 => ?_
 obtain ⟨⟨⟨⟨⟨⟨h1, h2⟩, h3⟩, h4⟩, _⟩, _⟩, _⟩ := w'
 refine z0 ?_
 clear z0
 have h2 := beq_iff_eq.mp h2
 have hn : ns.length <= 3 := by
  rcases (Bool.or_eq_true _ _).mp h1 with h | h <;> rw [beq_iff_eq.mp h] <;> decide
 refine wx_swap (swap_yes w) (we_tuple ((args_ok (fun h => weE G h) h3 h rl rh).mono fun us H₁ q => q.rec fun {F1 ws l1} g r h9 n q2 => ⟨by rw [r.len, n, h2]; exact Nat.le_trans hn (by decide), _, rfl, by rw [r.len, n, h2, List.length_map], ?_⟩)) rfl
 rw [<- List.map_reverse] at q2
 rw [<- List.map_reverse]
 have rv : ∀ {ws : List W} {us : List V}, RVs F1 ws us -> RVs F1 ws.reverse us.reverse := by
  intro ws
  induction ws with
  | nil => intro us h; rw [show us = [] from h]; rfl
  | cons w ws ih =>
   intro us h
   obtain ⟨v, r, rfl, a, b⟩ := h
   rw [List.reverse_cons, List.reverse_cons]
   exact (ih b).app (ws' := [w]) ⟨v, [], rfl, a, rfl⟩
 exact wns_mono (wns_of G (ns := ns.reverse) (fun p hp => List.contains_iff_mem.mp ((Bool.and_eq_true _ _).mp (List.all_eq_true.mp h4 p (List.mem_reverse.mp hp))).1) (ws := ws.reverse) (by simp only [List.length_reverse, List.length_reverse, n, h2]) q2 (rl.up g) (rv r) h9) fun F' H' q => hq (PA2.tr g q)
omit G in
theorem swaps_d {kx vx iter : Expr} {x y : Str} {px py : Pos} {sc : Scope} {dpos : Pos} {ln : Nat} (E : EnvOK X κ.env κ.fi) (hy : y ∈ κ.fi.L) (hl : dcS y py dpos sc = true) : swapsWith (.DictComp kx vx [⟨.Name x px, iter, [], 0⟩] sc dpos) (some (.Name y py)) ln κ.env = pure true := by
 have e3 : κ.env.blockKind = .function := by unfold Env.blockKind; rw [E.kind]; rfl
 have e4 := (E.ln y hy).1
 show (pure (κ.env.blockKind == .function && κ.env.kindOf y == some .local && py.line == dpos.line && !(sc.names.any fun (n, k) => n == y && (k == .local || k == .cell))) : Sem Bool) = pure true
 unfold dcS at hl
 rw [e3, e4, Bool.and_assoc, hl]
 rfl
omit G in
theorem wx_fr {s : Stmt} {Q' : Fl -> Frame -> Hp -> Prop} (h : EnvOK X κ.env κ.fi -> fr.L.map (·.1) = κ.fi.L -> fr.C.map (·.1) = κ.fi.C ++ κ.fi.R -> WX X κ.n κ.fi κ.env fr s H Q') : WX X κ.n κ.fi κ.env fr s H Q' := fun E A P s r S f => h E f.nL f.nC E A P s r S f
theorem dc_ok {t k v : Expr} {gs : List Comprehension} {sc : Scope} {dp pos} {Q' : Fl -> Frame -> Hp -> Prop} (hq : ∀ {fr H}, PA2 F (fun L C l => ru X κ Q c [] L C l) fr H -> Q' .next fr H)
  (h : ru X κ Q (cDc X.K κ.n ask κ.fi t (k, v, gs, sc, dp) c) [] L C l) (rl : Rl F L C fr) (rh : RH F l H) : WX X κ.n κ.fi κ.env fr (.Assign [t] (.DictComp k v gs sc dp) pos) H Q' := by
 refine cps fun G0 z0 => ?_
 obtain ⟨z, ez, h3⟩ := opt_ok h
 obtain ⟨g, e1, h4⟩ := one_ok h3
 obtain ⟨x, ex, h5⟩ := opt_ok h4
 obtain ⟨y, ey, h6⟩ := opt_ok h5
 obtain ⟨ei, h7⟩ := emp_ok h6
 obtain ⟨w, h2⟩ := ifc_ok h7
 clear h h3 h4 h5 h6 h7
 simp only [Bool.and_eq_true, Bool.and_eq_true, Bool.and_eq_true, Bool.and_eq_true, Bool.and_eq_true, Bool.and_eq_true] at w
 obtain ⟨⟨⟨⟨⟨⟨w0, w1⟩, w2⟩, w3⟩, w4⟩, w5⟩, w6⟩ := w
 obtain ⟨tg, iter, ifs, as⟩ := g
 refine z0 ?_
 clear z0
 have e0 : as = 0 := eq_of_beq w2
 have e2 : tg = .Name x.1 x.2 := nmO_ok ex
 have e3 : ifs = [] := ei
 have e4 : k = .Name x.1 y.2 := by rw [nmO_ok ey, eq_of_beq w3]
 have e5 := nmO_ok ez
 subst e0 e1 e2 e3 e4 e5
 have hz : z.1 ∈ κ.fi.L := List.contains_iff_mem.mp w0
 refine wx_fr fun EE nL nC => ?_
 refine cps fun G0 z0 => ?_
 obtain ⟨C', p1, p2, p3⟩ := pk_ok rl.c nC (R := innerR sc) fun y hy => List.contains_iff_mem.mp (List.all_eq_true.mp w5 y hy)
 refine z0 ?_
 clear z0
 refine wx_dcomp (G := innerG X.K sc) (C' := C') (swaps_d EE hz w1) (by rw [p1]; exact w4) gvs_ok p2 ?_ (set_plain w6 _)
 rw [p1]
 refine weW (weE G h2 rl rh) fun {F1 w1 l1 v1 H1} g1 r1 h1 q1 => ?_
 refine cps fun G0 z0 => ?_
 obtain ⟨ws, l2, I, hi, h0, hend, hstep⟩ := Stp.get q1
 refine z0 ?_
 clear z0
 obtain ⟨F2, vs, K, g2, rh2, rvs, wit, hK⟩ := its_ok hi r1 h1
 refine ⟨vs, K, EV F2 I, wit _, .mk (dw := []) .rfl rvs rfl rh2 h0, fun r d H' q => q.rec fun g O O h O => hK _ _ _ g h, fun d H' a ep q ha => q.rec fun {F3 rw' dw l3} g3 r3 d3 h3 i3 => ?_, fun v r d H' cenv q => q.rec fun {F3 rw' dw l3} g3 r3 d3 h3 i3 => ?_⟩
 ·induction rw' with
  | cons => obtain ⟨_, _, z, _⟩ := r3; cases z
  | nil =>
   have k := hend _ _ i3 a
   refine cps fun G0 z0 => ?_
   obtain ⟨i, hi⟩ := idx_some hz
   have k : ru X κ Q (.sl i c) [.ref a] L C (.c a (.dict dw) l3) := by
    rwa [cA1_loc hi] at k
   obtain ⟨l', L', p, r, k⟩ := setL_ok (w := .ref a) (v := .ref a) (F := F3) rfl k (rl.l.up ((g1.trans g2).trans g3)) (by rw [nL]; exact idx_ok hi)
   refine z0 ?_
   clear z0
   exact wn_loc p (hq ⟨(g1.trans g2).trans g3, ⟨r, rl.c.up ((g1.trans g2).trans g3)⟩, h3.new (x := .dict dw) ha rfl ⟨_, ep, Hp.set_same _ _ _, d3⟩, k⟩)
 ·induction rw' with
  | nil => cases (show _ = _ from r3)
  | cons w rw' =>
   refine cps fun G0 z0 => ?_
   obtain ⟨v', r', z, rv, r3⟩ := r3
   cases z
   obtain ⟨i, rfl, hd, hs⟩ := hstep w rw' dw l3 i3
   refine z0 ?_
   clear z0
   refine we_loc (v := v) .here ⟨i, rv, by rw [d3.len]; exact hd, ?_⟩
   exact weW (weE G (κ := ⟨κ.n, _, cenv⟩) (hs cenv) (fr := ⟨[(x.1, some v)], C'⟩) ⟨⟨_, _, [], rfl, rv, rfl⟩, p3.up ((g1.trans g2).trans g3)⟩ h3) fun g4 r4 h4 q => by
    cases q with
    | ret q => exact .mk (g3.trans g4) (r3.up g4) ((d3.up g4).put r4) h4 q
omit G in
theorem callO_ok {e : Expr} {q} (h : callO e = some q) : e = .Call q.1 q.2.1 q.2.2.1 q.2.2.2 := by
 have k := ev_ok e
 revert h k
 unfold callO
 generalize ev e = v
 intro h k
 cases v with
 | ca => cases h; exact k
 | _ => exact none_no h
omit G in
theorem itmsO_ok {e : Expr} {q} (h : itmsO e = some q) : e = .Attribute q.1 q.2.1 q.2.2 := by
 have k := ev_ok e
 revert h k
 unfold itmsO
 generalize ev e = v
 intro h k
 cases v with
 | at_ => cases h; exact k
 | _ => exact none_no h
omit G in
theorem FQ.nx {I : LW -> LW -> Hl -> Prop} {fl : Fl} (p : PX F (FQ I Q) fl fr H) {R : Fl -> Frame -> Hp -> Prop} (h1 : ∀ {F' L C l fr H}, Fle F F' -> Rl F' L C fr -> RH F' l H -> I L C l -> R .next fr H)
  (h2 : ∀ {F' w v L C l fr H}, Fle F F' -> RV F' w v -> Rl F' L C fr -> RH F' l H -> Q (.ret w) L C l -> R (.ret v) fr H) : R fl fr H := p.rec fun {F' f2 L C l} g r f h k => by
 induction k with
 | next m s k => rw [show fl = _ from r]; exact h1 g ⟨f.l.fgs, f.c⟩ (h.sub s) k
 | ret k => obtain ⟨v, rfl, r⟩ := r; exact h2 g r f h k
omit G in
theorem WQ.nx {I : Nat -> LW -> LW -> Hl -> Prop} {fin : LW -> LW -> Hl -> Prop} {k : Nat} {fl : Fl} (p : PX F (WQ I fin Q k) fl fr H) {R : Fl -> Frame -> Hp -> Prop} (h1 : ∀ {F' L C l fr H}, Fle F F' -> Rl F' L C fr -> RH F' l H -> (∃ m, m < k /\ I m L C l) -> R .next fr H)
  (hb : ∀ {F' L C l fr H}, Fle F F' -> Rl F' L C fr -> RH F' l H -> fin L C l -> R .brk fr H) (h2 : ∀ {F' w v L C l fr H}, Fle F F' -> RV F' w v -> Rl F' L C fr -> RH F' l H -> Q (.ret w) L C l -> R (.ret v) fr H) : R fl fr H := p.rec fun {F' f2 L C l} g r f h k => by
 induction k with
 | next fs s k => rw [show fl = _ from r]; exact h1 g ⟨f.l.fgs, f.c⟩ (h.sub s) ⟨_, k⟩
 | brk k => rw [show fl = _ from r]; exact hb g f h k
 | ret k => obtain ⟨v, rfl, r⟩ := r; exact h2 g r f h k
omit G in
theorem WQ.br {I : Nat -> LW -> LW -> Hl -> Prop} {fin : LW -> LW -> Hl -> Prop} {k : Nat} (h : WQ I fin Q k .brk L C l) : fin L C l := by
 cases h with
 | brk h => exact h
theorem for2_ok {m} (hm : ∀ {ss c Q L C l F fr H}, ru X κ Q (cS X.K κ.n ask κ.fi m ss c) [] L C l -> Rl F L C fr -> RH F l H -> WS X κ.n κ.fi κ.env fr ss H (PX F (Kc X κ Q c))) {t i : Expr} {b : List Stmt} {c pos} {Q' : Fl -> Frame -> Hp -> Prop} (hq : ∀ {fl fr H}, PX F (fun f L C l => match f with | .next => ru X κ Q c [] L C l | f => Q f L C l) fl fr H -> Q' fl fr H)
  (h : ru X κ Q (cFor2 X.K κ.n ask κ.fi t i (cS X.K κ.n ask κ.fi m b .done) c) [] L C l) (rl : Rl F L C fr) (rh : RH F l H) : WX X κ.n κ.fi κ.env fr (.For t i b [] pos) H Q' := by
 refine cps fun G0 z0 => ?_
 obtain ⟨⟨f, es, ks, p⟩, e1, h1⟩ := opt_ok h
 have e1 := callO_ok e1
 obtain ⟨e2, h2⟩ := emp_ok h1
 refine z0 ?_
 clear z0
 clear h h1
 dsimp only at e1 e2
 subst e1 e2
 have h := h2
 clear h2
 cases e3 : itmsO f with
 | some q =>
  rw [e3] at h
  refine cps fun G0 z0 => ?_
  obtain ⟨o, x, ap⟩ := q
  obtain ⟨e4, h3⟩ := emp_ok h
  obtain ⟨w, h4⟩ := ifc_ok h3
  obtain ⟨ts, e5, h5⟩ := opt_ok h4
  refine z0 ?_
  clear z0
  obtain ⟨w2, h2⟩ := ifc_ok h5
  clear h h3 h4 h5
  rw [Bool.and_eq_true, Bool.and_eq_true] at w
  obtain ⟨⟨w3, w4⟩, w5⟩ := w
  have w2 := (Bool.and_eq_true _ _).mp w2
  obtain ⟨k, tp, e6⟩ := tupE_ok e5
  have e7 := itmsO_ok e3
  subst e4 e6 e7
  have e8 : x = "items" := eq_of_beq w3
  subst e8
  refine wx_for (we_items (weW (weE G h2 rl rh) fun {F1 w1 l1 v1 H1} g1 r1 h1 k1 => ?_) (fun env => meth_tree rfl w4 w5 (by decide) env)) (fun x => rfl)
  refine cps fun G0 z0 => ?_
  obtain ⟨q, k1⟩ := lm_ok k1 r1 h1
  obtain ⟨ws, l2, I, hi, h0, hend, hstep⟩ := (show Stp _ from k1).get
  obtain ⟨a, n, rfl, hi⟩ := hi
  refine z0 ?_
  clear z0
  refine (show v1 = _ from r1).symm ▸ ?_
  have key : ∃ F2 kv ep, Fle F1 F2 /\ RH F2 l2 H1 /\ RK F2 id ws kv /\ H1 a = some (.dict kv ep) /\ F2 a = some (.dict kv ep) := by
   rcases hi with ⟨e, rfl⟩ | ⟨e, rfl⟩
   ·refine cps fun G0 z0 => ?_
    obtain ⟨kv, ep, q, z⟩ := h1.get e
    refine z0 ?_
    clear z0
    have f := h1.freeze (y := .fdict ws) e rfl rfl q ⟨kv, ep, Hp.set_same _ _ _, z.up (fun b d q' => (Hp.set_ne fun k => (h1.fz _ _ q').2 (k ▸ Hl.at_adr e a (.head _))).trans q')⟩
    exact ⟨_, kv, ep, f.1, f.2, z.up f.1, q, Hp.set_same _ _ _⟩
   ·obtain ⟨kv, ep, q, z⟩ := h1.get e
    exact ⟨F1, kv, ep, .rfl, h1, z, (h1.fz _ _ q).1, q⟩
  refine cps fun G0 z0 => ?_
  obtain ⟨F2, kv, ep, g2, rh2, z, ha, fa⟩ := key
  refine z0 ?_
  clear z0
  refine ⟨⟨a, kv, ep, rfl, ha⟩, wes_nil (wc_items ha fun c9 hc => ?_)⟩
  have gc := Fz.ext rh2 hc (.items a)
  have rh3 := rh2.frz hc (.items a)
  have hac : a ≠ c9 := fun q => by rw [q, hc] at ha; cases ha
  refine ⟨_, _, DV (Hp.set F2 c9 (.items a)) I, wit_items (Hp.set_same _ _ _) ((Hp.set_ne hac).trans ha), .mk .rfl (z.up gc) rfl (rl.up ((g1.trans g2).trans gc)) rh3 h0, fun r F' H' q => q.rec fun g O O O h O => (h.fz _ _ (g _ _ (gc _ _ fa))).1, fun F' H' q => q.rec fun {F3 rw' kv3 L C l3} g3 r3 e3 f3 h3 i3 => ?_, fun v r F' H' q => q.rec fun {F3 rw' kv3 L C l3} g3 r3 e3 f3 h3 i3 => ?_⟩
  ·cases rw' with
   | cons => obtain ⟨_, _, z, _⟩ := r3; subst z; cases e3
   | nil => exact hq (.mk (f2 := .next) (((g1.trans g2).trans gc).trans g3) rfl f3 h3 (hend _ _ _ i3))
  ·cases rw' with
   | nil => rw [show kv3 = _ from r3] at e3; cases e3
   | cons w rw' =>
    refine cps fun G0 z0 => ?_
    obtain ⟨v', r', z, rv, r3⟩ := r3
    subst z
    refine z0 ?_
    clear z0
    cases e3
    have k := hstep w rw' L C l3 i3
    have e9 := eq_of_beq w2.2
    refine wa_tup (vs := [.int w.1, v']) (by rw [e9]; rfl) ((cAs_ok G (ws := [.int w.1, w.2]) (st := []) w2.1 (by rw [e9]; rfl) k f3 ⟨_, _, rfl, rfl, _, _, rfl, rv, rfl⟩ h3).mono' fun fr4 H4 p => p.rec fun {F4 L4 C4 l4} g4 f4 h4 k4 => (hm k4 f4 h4).mono fun fl F' H' q => ?_) fun env => asg_len w2.1
    exact FQ.nx (F := F4) (Q := Q) (I := I rw') (R := LQ (DV (Hp.set F2 c9 (.items a)) I (r'.map itp)) Q') (q.rec fun {F' f2 L C l} g r f h k => .mk g r f h (by induction f2 <;> exact k))
     (fun g f h i => .mk ((g3.trans g4).trans g) (r3.up (g4.trans g)) rfl f h i) fun g r f h k => hq (.mk (f2 := .ret _) ((((g1.trans g2).trans gc).trans g3).trans (g4.trans g)) ⟨_, rfl, r⟩ f h k)
 | none =>
  rw [e3] at h
  refine cps fun G0 z0 => ?_
  obtain ⟨y, e4, h⟩ := opt_ok h
  obtain ⟨v, e5, h⟩ := opt_ok h
  refine z0 ?_
  clear z0
  induction v with
  | type T =>
   refine cps fun G0 z0 => ?_
   obtain ⟨w, h⟩ := ifc_ok h
   obtain ⟨e, e6, h⟩ := one_ok h
   obtain ⟨w2, h⟩ := ifc_ok h
   refine z0 ?_
   clear z0
   rw [nmO_ok e4, e6]
   rw [eq_of_beq w] at e5
   refine wx_forEnum0 (.of e5) (weW (weE G h rl rh) fun {F1 w1 l1 v1 H1} g1 r1 h1 k1 => ?_) (fun O O => rfl) (fun env => star_cons w2 _ _) (fun O O => rfl)
   obtain ⟨x, vs, rfl, r, k⟩ := tup1 k1 r1
   induction x with
   | nil => rw [show vs = [] from r]; exact ⟨rfl, hq (.mk (f2 := .next) g1 rfl (rl.up g1) h1 k)⟩
   | cons => exact False.elim k
  | _ => exact False.elim h
end
end
section
theorem dcO_ok {e : Expr} {k w gs sc p} (h : dcO e = some (k, w, gs, sc, p)) : e = .DictComp k w gs sc p := by
 have k := ev_ok e
 revert h k
 unfold dcO
 generalize ev e = v
 intro h k
 cases v with
 | dc => cases h; exact k
 | _ => exact none_no h
section
variable {X : Wd} {ask : Bool} (G : Gd X) {κ : Kx}
include G
theorem cS_ok (m : Nat) : ∀ {ss : List Stmt} {c : Cd} {Q : Qt} {L C : LW} {l : Hl} {F : Fz} {fr : Frame} {H : Hp}, ru X κ Q (cS X.K κ.n ask κ.fi m ss c) [] L C l -> Rl F L C fr -> RH F l H -> WS X κ.n κ.fi κ.env fr ss H (PX F (Kc X κ Q c)) := by
 induction m with
 | zero => exact fun h => False.elim h
 | succ m ih =>
  intro ss c Q L C l F fr H h rl rh
  cases ss with
  | nil => exact ws_nil (.mk (f2 := .next) .rfl rfl rl rh h)
  | cons s r =>
  have nx : ∀ {fr H}, PA2 F (fun L C l => ru X κ Q (cS X.K κ.n ask κ.fi m r c) [] L C l) fr H -> Nx X κ Q c F r .next fr H := fun p => p.rec fun g f h k => (ih k f h).mono fun O O O => PX.tr g
  have kc : ∀ {fl fr H}, PX F (Kc X κ Q (cS X.K κ.n ask κ.fi m r c)) fl fr H -> Nx X κ Q c F r fl fr H := fun p => p.rec fun {F' f2 L C l} g q f h k => by
   cases f2 with
   | next => rw [show _ = _ from q]; exact nx ⟨g, f, h, k⟩
   | brk => rw [show _ = _ from q]; exact .mk (f2 := .brk) g rfl f h k
   | cont => rw [show _ = _ from q]; exact .mk (f2 := .cont) g rfl f h k
   | ret w => obtain ⟨v, rfl, q⟩ := q; exact .mk (f2 := .ret w) g ⟨v, rfl, q⟩ f h k
  have br : ∀ {F1 x l1 H1 b o}, Fle F F1 -> RH F1 l1 H1 -> ((x = true -> ru X κ Q (cS X.K κ.n ask κ.fi m b (cS X.K κ.n ask κ.fi m r c)) [] L C l1) /\ (x = false -> ru X κ Q (cS X.K κ.n ask κ.fi m o (cS X.K κ.n ask κ.fi m r c)) [] L C l1)) -> (x = true -> WS X κ.n κ.fi κ.env fr b H1 (Nx X κ Q c F r)) /\ (x = false -> WS X κ.n κ.fi κ.env fr o H1 (Nx X κ Q c F r)) :=
   fun g h k => ⟨fun z => (ih (k.1 z) (rl.up g) h).mono fun O O O q => kc (PX.tr g q), fun z => (ih (k.2 z) (rl.up g) h).mono fun O O O q => kc (PX.tr g q)⟩
  refine ws_cons ?_
  show WX X κ.n κ.fi κ.env fr s H (Nx X κ Q c F r)
  cases s with
  | Assign ts v p =>
   obtain ⟨t, rfl, h2⟩ := one_ok h
   clear h
   unfold cAsg at h2
   cases e : dcO v with
   | some q =>
    simp only [e] at h2
    obtain ⟨k, w, gs, sc, dp⟩ := q
    have ez := dcO_ok e
    subst ez
    exact dc_ok G nx h2 rl rh
   | none =>
    rw [e] at h2
    clear e
    dsimp only at h2
    have plain : ru X κ Q (cE X.K κ.n ask 30 κ.fi false v (cA X.K κ.n ask κ.fi t (cS X.K κ.n ask κ.fi m r c)) .bad) [] L C l -> noComp v = true -> noStar t = true -> swappedStores [t] v κ.env = pure none -> WX X κ.n κ.fi κ.env fr (.Assign [t] v p) H (Nx X κ Q c F r) := fun h w1 w2 w3 =>
     wx_assign (weW (weE G h rl rh) fun g1 r1 h1 k1 => (cA_ok G k1 (rl.up g1) r1 h1).mono fun F' H' q => nx (PA2.tr g1 q)) (swaps_no w1 _ _ _) (fun O => w3) (by rw [asg_cons w2]; rfl)
    cases e1 : tupE t with
    | none =>
     rw [e1] at h2
     obtain ⟨w, h2⟩ := ifc_ok h2
     rw [Bool.and_eq_true, Bool.and_eq_true] at w
     exact plain h2 w.1.1 w.1.2 (swap_none (.inl e1) (by simpa using w.2))
    | some ts =>
     rw [e1] at h2
     obtain ⟨k, tp, et⟩ := tupE_ok e1
     cases e2 : tupE v with
     | none =>
      rw [e2] at h2
      obtain ⟨w, h2⟩ := ifc_ok h2
      exact plain h2 w (by rw [et]; rfl) (swap_none (.inr e2) (by rw [et]; rfl))
     | some vs =>
      rw [e2] at h2
      refine cps fun G0 z0 => ?_
      obtain ⟨k', vp, ev⟩ := tupE_ok e2
      refine z0 ?_
      clear z0
      rw [et, ev]
      dsimp only at h2
      cases e3 : nms ts with
      | none => rw [e3] at h2; exact tupA_ok G nx h2 rl rh
      | some ns =>
       rw [e3] at h2
       dsimp only at h2
       cases w : swOK κ.fi ns vs with
       | false => rw [w] at h2; exact tupA_ok G nx h2 rl rh
       | true => rw [w] at h2; rw [nms_ok e3] at h2 ⊢; exact sw_ok G nx w h2 rl rh
  | If t b o p => exact wx_if (wtW (wtE G h rl rh) fun g h k => br g h k)
  | Return e p =>
   induction e with
   | some e => exact wx_ret (weW (weE G h rl rh) fun {F1 w l1 v H1} g r h k => .mk (f2 := .ret w) g ⟨v, rfl, r⟩ (rl.up g) h k)
   | none => exact wx_ret0 (.mk (f2 := .ret .none) .rfl ⟨_, rfl, rfl⟩ rl rh h)
  | Pass p => exact wx_pass (nx ⟨.rfl, rl, rh, h⟩)
  | Expr e p =>
   obtain ⟨w, h⟩ := ifc_ok h
   refine wx_expr (weW (weE G h rl rh) fun {F1 w l1 v H1} g r h k => ?_) (swaps_no w _ _ _)
   obtain ⟨e, k⟩ := none_ok k
   subst e
   exact ⟨r, nx ⟨g, rl.up g, h, k⟩⟩
  | Try b hs o f p =>
   obtain ⟨e1, h2⟩ := emp_ok h
   obtain ⟨e2, h3⟩ := emp_ok h2
   obtain ⟨w, h4⟩ := ifc_ok h3
   clear h h2 h3
   subst e1 e2
   induction hs with
   | nil => cases w
   | cons => exact wx_try ((ih h4 rl rh).mono fun O O O q => kc q)
  | While t b o p =>
   obtain ⟨e1, h2⟩ := emp_ok h
   clear h
   subst e1
   obtain ⟨k, I, h0, h1⟩ := (show Stp _ from h2).get
   exact wx_while (fun j => WV F (I j)) k (.mk .rfl rl rh h0) fun k F' H' q => q.rec fun {F1 L1 C1 l1} g1 f1 r1 i1 => wtW (wtE G (h1 k L1 C1 l1 i1) f1 r1) fun {F2 x l2 H2} g2 r2 k2 =>
    ⟨fun z => (ih (k2.1 z) (f1.up g2) r2).mono fun fl F3 H3 q => WQ.nx (F := F2) (Q := Q) (I := I) (fin := fun L C l => ru X κ Q (cS X.K κ.n ask κ.fi m r c) [] L C l) (k := k) (R := LQ (fun F3 H3 => ∃ m, m < k /\ WV F (I m) F3 H3) (Nx X κ Q c F r))
     (q.rec fun {F' f2 L C l} g r f h k => .mk g r f h (by induction f2 <;> exact k)) (fun g f h i => ⟨i.choose, i.choose_spec.1, .mk ((g1.trans g2).trans g) f h i.choose_spec.2⟩) (fun g f h k => nx ⟨(g1.trans g2).trans g, f, h, k⟩) fun g r f h k => .mk (f2 := .ret _) ((g1.trans g2).trans g) ⟨_, rfl, r⟩ f h k,
     fun z => nx ⟨g1.trans g2, f1.up g2, r2, WQ.br (k2.2 z)⟩⟩
  | For t i b o p =>
   obtain ⟨e1, h2⟩ := emp_ok h
   clear h
   subst e1
   cases ht : isTup t with
   | true =>
    rw [ht] at h2
    exact for2_ok G (fun h => ih h) (fun q => kc q) h2 rl rh
   | false =>
    rw [ht] at h2
    obtain ⟨w, h2⟩ := ifc_ok h2
    rw [Bool.and_eq_true, Bool.and_eq_true] at w
    refine wx_for (weW (weE G h2 rl rh) fun {F1 w1 l1 v1 H1} g1 r1 h1 k1 => ?_) (set_plain w.1.1 _)
    refine cps fun G0 z0 => ?_
    obtain ⟨ws, l2, I, hi, h0, hend, hstep⟩ := Stp.get k1
    refine z0 ?_
    clear z0
    obtain ⟨F2, vs, K, g2, rh2, rvs, wit, hK⟩ := its_ok hi r1 h1
    refine ⟨vs, K, FV F2 I, (wit _).for_ fun it v => own_go ht (by simpa using w.2) it v, .mk .rfl rvs (rl.up (g1.trans g2)) rh2 h0, fun r F' H' q => q.rec fun g O O h O => hK _ _ _ g h, fun F' H' q => q.rec fun {F3 rw' L C l3} g3 r3 f3 h3 i3 => ?_, fun v rr F' H' q => q.rec fun {F3 rw' L C l3} g3 r3 f3 h3 i3 => ?_⟩
    ·cases rw' with
     | cons => obtain ⟨_, _, z, _⟩ := r3; cases z
     | nil => exact nx ⟨(g1.trans g2).trans g3, f3, h3, hend _ _ _ i3⟩
    ·induction rw' with
     | nil => cases (show _ = _ from r3)
     | cons w rw' =>
      refine cps fun G0 z0 => ?_
      obtain ⟨v', r', z, rv, r3⟩ := r3
      cases z
      refine z0 ?_
      clear z0
      refine (cA1_ok G (hstep w rw' L C l3 i3) f3 rv h3).mono fun fr4 H4 p => p.rec fun {F4 L4 C4 l4} g4 f4 h4 k4 => (ih k4 f4 h4).mono fun fl F' H' q => ?_
      exact FQ.nx (F := F4) (Q := Q) (I := I rw') (R := LQ (FV F2 I rr) (Nx X κ Q c F r)) (q.rec fun {F' f2 L C l} g r f h k => .mk g r f h (by induction f2 <;> exact k))
       (fun g f h i => .mk ((g3.trans g4).trans g) (r3.up (g4.trans g)) f h i) fun g r f h k => .mk (f2 := .ret _) (((g1.trans g2).trans g3).trans (g4.trans g)) ⟨_, rfl, r⟩ f h k
  | _ => exact False.elim h
end
end
section
noncomputable def fdO : Obj -> Option FuncData
 | ⟨_, _, .func f, _⟩ => some f
 | _ => none
noncomputable def fdA (K : Frag) (a : Addr) : FuncData := ((K.lookup a).bind fdO).getD default
noncomputable def kindN (k : NameKind) (sc : Scope) : List Str := (sc.names.filter fun p => p.2 == k).map (·.1)
noncomputable def fiA (K : Frag) (a : Addr) : FI := ⟨gvs K (kindN .globalImplicit (fdA K a).scope), kindN .local (fdA K a).scope, kindN .cell (fdA K a).scope, []⟩
noncomputable def psA (K : Frag) (a : Addr) : List Str := (fdA K a).params.args.map (·.arg)
noncomputable def bdA (K : Frag) (a : Addr) : Option (List Stmt) := match (fdA K a).body with
 | .stmts b => some b
 | _ => none
theorem fdO_ok {o : Obj} {f} (h : fdO o = some f) : o.data = .func f := by
 obtain ⟨c, d, x, s⟩ := o
 induction x with
 | func g => exact congrArg Data.func (Option.some.inj h)
 | _ => exact none_no h
theorem bdA_ok {K : Frag} {a : Addr} {b} (h : bdA K a = some b) : (fdA K a).body = .stmts b := by
 have h : (match (fdA K a).body with | .stmts b => some b | _ => none) = some b := h
 revert h
 generalize (fdA K a).body = z
 intro h
 cases z with
 | stmts => exact congrArg _ (Option.some.inj h)
 | _ => exact none_no h
noncomputable def askA (a : Addr) : Bool := [466, 563, 582, 327, 369].any (Nat.beq a)
noncomputable def okA (K : Frag) (a : Addr) : Bool := ((K.lookup a).bind fdO).isSome && (bdA K a).isSome && (fdA K a).closure.isEmpty && codeIn K (fdA K a).code (fdA K a).qualname && scChk (fdA K a).scope (fiA K a) (psA K a) && decide ((fdA K a).globals = mainGlobals) && decide ((fdA K a).builtins = builtinsNs) && Nat.ble 1 (ht a)
noncomputable def cdA (K : Frag) (a : Addr) : Cd := cS K (ht a - 1) (askA a) (fiA K a) 60 ((bdA K a).getD []) .done
noncomputable def mkL (ps : List Str) (ws : List W) : List Str -> LW
 | [] => .nil
 | x :: r => match (ps.zip ws).lookup x with
  | some w => .s w (mkL ps ws r)
  | none => .o (mkL ps ws r)
theorem lkp_ok {F : Fz} {x : Str} {ps : List Str} : ∀ {ws vs}, RVs F ws vs -> (∀ w, (ps.zip ws).lookup x = some w -> ∃ v, (ps.zip vs).lookup x = some v /\ RV F w v) := by
 induction ps with
 | nil => exact fun O w e => none_no e
 | cons p ps ih =>
  refine fun {ws vs} => ws.casesOn (fun O w e => none_no e) fun u ws q => q.elim fun v q => q.elim fun r q => q.1 ▸ fun w e => ?_
  rw [List.zip_cons_cons, List.lookup_cons] at e ⊢
  cases z : x == p with
  | true => rw [z] at e; exact ⟨v, rfl, Option.some.inj e ▸ q.2.1⟩
  | false => rw [z] at e; exact ih q.2.2 w e
theorem mkL_ok {F : Fz} {ps : List Str} {ws vs} (r : RVs F ws vs) {ln : List Str} : RL F (mkL ps ws ln) (ln.map fun x => (x, (ps.zip vs).lookup x)) := by
 induction ln with
 | nil => exact rfl
 | cons x ln ih =>
  show RL F (match (ps.zip ws).lookup x with | some w => .s w (mkL ps ws ln) | none => .o (mkL ps ws ln)) _
  cases e : (ps.zip ws).lookup x with
  | none => exact ⟨_, _, rfl, ih⟩
  | some w => exact (lkp_ok r w e).elim fun v z => ⟨_, v, _, congrArg (fun o => (x, o) :: _) z.1, z.2, ih⟩
noncomputable def BindOK (fd : FuncData) (ps : List Str) : Prop := ∀ vals : List Value, vals.length = ps.length -> bindArgs fd ⟨vals, []⟩ = pure (ps.zip vals)
noncomputable def fact (K : Frag) (a : Addr) : Bool × Cd × List Str × List Str × List Str := (okA K a, cdA K a, psA K a, (fiA K a).L, (fiA K a).C)
noncomputable def WD2 (X : Wd) (a : Addr) (ws : List W) (l : Hl) (K : W -> Hl -> Prop) : Prop := ∀ F vs H, RVs F ws vs -> RH F l H -> WD X (ht a) (.ref a) vs H (PW F K)
section
variable {X : Wd} {l : Hl} {K : W -> Hl -> Prop} {a : Addr} {ws : List W}
theorem WD2.wc (h : WD2 X a ws l K) : WC2 X a ws l K := fun F vs H r rh => (h F vs H r rh).wc
theorem WC2.sub (h : WC2 X a ws l fun w l => ∃ l', Sub l l' /\ K w l') : WC2 X a ws l K := fun F vs H r rh => (h F vs H r rh).mono fun O O p => p.rec fun g r h q => ⟨g, r, h.sub q.choose_spec.1, q.choose_spec.2⟩
theorem WC2.pre {l' : Hl} (s : Sub l l') (h : WC2 X a ws l' K) : WC2 X a ws l K := fun F vs H r rh => h F vs H r (rh.sub s)
theorem wd_run (G : Gd X) {c : Cd} {ps ln cn : List Str} {L C : LW} {us : List W} (e : fact X.K a = (true, c, ps, ln, cn)) (hb : ∀ F vs, RVs F ws vs -> ∃ us', RVs F us us' /\ ∀ P s vals, St X P H s -> VRs s.heap vs vals -> ∃ vals', BindsTo s (fdA X.K a) ⟨vals, []⟩ (ps.zip vals') /\ VRs s.heap us' vals')
  (hL : mkL ps us ln = L) (hC : mkL ps us cn = C) (h : ∀ κ, ru X κ (RQ K) c [] L C l) : ∀ F vs, RVs F ws vs -> RH F l H -> WD X (ht a) (.ref a) vs H (PW F K) := by
 intro F vs r rh
 unfold fact at e
 simp only [Prod.mk.injEq] at e
 refine cps fun G0 z0 => ?_
 obtain ⟨e1, e2, e3, e4, e5⟩ := e
 subst e3 e4 e5
 refine z0 ?_
 clear z0
 unfold okA at e1
 simp only [Bool.and_eq_true] at e1
 refine cps fun G0 z0 => ?_
 obtain ⟨⟨⟨⟨⟨⟨⟨h1, h2⟩, h3⟩, h4⟩, h5⟩, h6⟩, h7⟩, h8⟩ := e1
 obtain ⟨fd, hfd⟩ := Option.isSome_iff_exists.mp h1
 obtain ⟨o, ho, hf⟩ := Option.bind_eq_some_iff.mp hfd
 have hd : o.data = .func (fdA X.K a) := by
  have : fdA X.K a = fd := by unfold fdA; rw [hfd]; rfl
  rw [this]
  exact fdO_ok hf
 obtain ⟨body, hb'⟩ := Option.isSome_iff_exists.mp h2
 have hbd : (fdA X.K a).body = .stmts body := by
  exact bdA_ok hb'
 obtain ⟨us', ru', hb⟩ := hb F vs r
 refine z0 ?_
 clear z0
 have hn : ht a = ht a - 1 + 1 := (Nat.sub_add_cancel (Nat.le_of_ble_eq_true h8)).symm
 rw [hn]
 refine wd_body (ws := us') (F0 := ⟨_, _⟩) ho hd hbd (List.isEmpty_iff.mp h3) h4 h5 gvs_ok (of_decide_eq_true h6) (of_decide_eq_true h7) hb rfl rfl fun env => ?_
 have k := h ⟨ht a - 1, fiA X.K a, env⟩
 rw [<- e2, <- hL, <- hC] at k
 unfold cdA at k
 rw [hb'] at k
 refine (cS_ok G 60 (κ := ⟨ht a - 1, fiA X.K a, env⟩) k ⟨mkL_ok ru', mkL_ok ru'⟩ rh).mono fun fl fr H' p => p.rec fun {F' f2 L C l} g r f h k => ?_
 induction f2 with
 | next => rw [show fl = _ from r]; cases (show RQ K .next L C l from k) with | next k => exact .mk (w := .none) g rfl h k
 | ret w => obtain ⟨v, rfl, r⟩ := r; cases (show RQ K (.ret w) L C l from k) with | ret k => exact .mk g r h k
 | brk => cases (show RQ K .brk L C l from k)
 | cont => cases (show RQ K .cont L C l from k)
theorem wd_run0 (G : Gd X) {c : Cd} {ps ln cn : List Str} {L C : LW} (e : fact X.K a = (true, c, ps, ln, cn)) (hb : BindOK (fdA X.K a) ps) (hn : ws.length = ps.length)
  (hL : mkL ps ws ln = L) (hC : mkL ps ws cn = C) (h : ∀ κ, ru X κ (RQ K) c [] L C l) : WD2 X a ws l K := fun F vs H r rh =>
 wd_run G e (H := H) (fun F vs r => ⟨vs, r, fun P s vals S rv => ⟨vals, .of_eq (hb vals (rv.length.trans (r.len.trans hn))), rv⟩⟩) hL hC h F vs r rh
theorem wc_mk {C fI : Addr} (hm : makesIn X.K C = true /\ findIn X.K (.ref C) "__init__" = some (some (.ref fI)) /\ typeIn X.K (.ref fI) = some (.type "function") /\ keepIn X.K (.ref C) = true) (i : isC C = true) (hh : ht C = ht fI + 1)
  (h : ∀ x d, WD2 X fI (.ref x :: ws) (.c x (.obj C d []) l) fun v l' => v = .none /\ K (.ref x) l') : WC2 X C ws l K := fun F vs H r rh => by
 rw [hh]
 refine wc_make hm.1 hm.2.1 hm.2.2.1 fun x d h1 h2 h3 => ?_
 refine fun A P s vals rm S rv => codeAny_mono (h x d F (.ref x :: vs) _ ⟨_, _, rfl, rfl, r⟩ (rh.make i h1 h2 h3) A P s vals rm S rv) fun r s' q => ?_
 have up : ∀ {v s'}, PV X P s.heap (PW F fun v l' => v = .none /\ K (.ref x) l') v s' -> PV X P s.heap (fun v H' => v = .none /\ PW F K (.ref x) H') v s' := fun p => by
  obtain ⟨V, H', a, b, c, q⟩ := p
  refine ⟨V, H', a, b, c, q.rec fun g r h k => ?_⟩
  obtain ⟨k1, k2⟩ := k
  subst k1
  exact ⟨r, .mk (w := .ref x) g rfl h k2⟩
 rcases r with e | (v | _ | _ | _)
 ·exact q
 all_goals first | exact up q | exact q
end
theorem len_s {α : Type} {n : Nat} {l : List α} (h : l.length = n + 1) : ∃ a r, l = a :: r /\ r.length = n := by
 induction l with
 | nil => cases h
 | cons a r => exact ⟨a, r, rfl, Nat.succ.inj h⟩
theorem len_0 {α : Type} {l : List α} (h : l.length = 0) : l = [] := List.length_eq_zero_iff.mp h
theorem bind1 {fd : FuncData} {p0 : Str} (h : ∀ a0, bindArgs fd ⟨[a0], []⟩ = pure [(p0, a0)]) : BindOK fd [p0] := fun l e0 => by
 obtain ⟨a0, r0, h0, e1⟩ := len_s e0
 rw [h0, len_0 e1]
 exact h a0
theorem bind2 {fd : FuncData} {p0 p1 : Str} (h : ∀ a0 a1, bindArgs fd ⟨[a0, a1], []⟩ = pure [(p0, a0), (p1, a1)]) : BindOK fd [p0, p1] := fun l e0 => by
 refine cps fun G0 z0 => ?_
 obtain ⟨a0, r0, h0, e1⟩ := len_s e0
 obtain ⟨a1, r1, h1, e2⟩ := len_s e1
 refine z0 ?_
 clear z0
 rw [h0, h1, len_0 e2]
 exact h a0 a1
theorem bind3 {fd : FuncData} {p0 p1 p2 : Str} (h : ∀ a0 a1 a2, bindArgs fd ⟨[a0, a1, a2], []⟩ = pure [(p0, a0), (p1, a1), (p2, a2)]) : BindOK fd [p0, p1, p2] := fun l e0 => by
 refine cps fun G0 z0 => ?_
 obtain ⟨a0, r0, h0, e1⟩ := len_s e0
 obtain ⟨a1, r1, h1, e2⟩ := len_s e1
 obtain ⟨a2, r2, h2, e3⟩ := len_s e2
 refine z0 ?_
 clear z0
 simp only [h0, h1, h2, len_0 e3]
 exact h a0 a1 a2
theorem bind4 {fd : FuncData} {p0 p1 p2 p3 : Str} (h : ∀ a0 a1 a2 a3, bindArgs fd ⟨[a0, a1, a2, a3], []⟩ = pure [(p0, a0), (p1, a1), (p2, a2), (p3, a3)]) : BindOK fd [p0, p1, p2, p3] := fun l e0 => by
 refine cps fun G0 z0 => ?_
 obtain ⟨a0, r0, h0, e1⟩ := len_s e0
 obtain ⟨a1, r1, h1, e2⟩ := len_s e1
 obtain ⟨a2, r2, h2, e3⟩ := len_s e2
 obtain ⟨a3, r3, h3, e4⟩ := len_s e3
 refine z0 ?_
 clear z0
 simp only [h0, h1, h2, h3, len_0 e4]
 exact h a0 a1 a2 a3
theorem bind5 {fd : FuncData} {p0 p1 p2 p3 p4 : Str} (h : ∀ a0 a1 a2 a3 a4, bindArgs fd ⟨[a0, a1, a2, a3, a4], []⟩ = pure [(p0, a0), (p1, a1), (p2, a2), (p3, a3), (p4, a4)]) : BindOK fd [p0, p1, p2, p3, p4] := fun l e0 => by
 refine cps fun G0 z0 => ?_
 obtain ⟨a0, r0, h0, e1⟩ := len_s e0
 obtain ⟨a1, r1, h1, e2⟩ := len_s e1
 obtain ⟨a2, r2, h2, e3⟩ := len_s e2
 obtain ⟨a3, r3, h3, e4⟩ := len_s e3
 obtain ⟨a4, r4, h4, e5⟩ := len_s e4
 refine z0 ?_
 clear z0
 simp only [h0, h1, h2, h3, h4, len_0 e5]
 exact h a0 a1 a2 a3 a4
theorem bind8 {fd : FuncData} {p0 p1 p2 p3 p4 p5 p6 p7 : Str} (h : ∀ a0 a1 a2 a3 a4 a5 a6 a7, bindArgs fd ⟨[a0, a1, a2, a3, a4, a5, a6, a7], []⟩ = pure [(p0, a0), (p1, a1), (p2, a2), (p3, a3), (p4, a4), (p5, a5), (p6, a6), (p7, a7)]) : BindOK fd [p0, p1, p2, p3, p4, p5, p6, p7] := fun l e0 => by
 refine cps fun G0 z0 => ?_
 obtain ⟨a0, r0, h0, e1⟩ := len_s e0
 obtain ⟨a1, r1, h1, e2⟩ := len_s e1
 obtain ⟨a2, r2, h2, e3⟩ := len_s e2
 obtain ⟨a3, r3, h3, e4⟩ := len_s e3
 obtain ⟨a4, r4, h4, e5⟩ := len_s e4
 obtain ⟨a5, r5, h5, e6⟩ := len_s e5
 obtain ⟨a6, r6, h6, e7⟩ := len_s e6
 obtain ⟨a7, r7, h7, e8⟩ := len_s e7
 refine z0 ?_
 clear z0
 simp only [h0, h1, h2, h3, h4, h5, h6, h7, len_0 e8]
 exact h a0 a1 a2 a3 a4 a5 a6 a7
end
open Mine.H
section
noncomputable def Kf (P : Params) : Frag := (List.range 583).zip (fl P)
noncomputable abbrev S (x : String) : Str := Str.ofString x
structure Good (X : Wd) : Prop where
 K : X.K = Kf X.w.params
theorem all8 {n : Nat} {p : Nat -> Bool} (h : (List.range n).all p = true) (i : Nat) (hi : i < n) : p i = true := List.all_eq_true.mp h i (List.mem_range.mpr hi)
noncomputable def chA (K : Frag) (C i : Nat) : Bool := !okX C i || (attrOK K C (nmA i) && setOK K C (nmA i))
theorem chA_ok {K : Frag} {C : Nat} (h : (List.range 31).all (chA K C) = true) (i : Nat) (z : okX C i = true) (hi : i < 31) : attrOK K C (nmA i) = true /\ setOK K C (nmA i) = true := by
 have := all8 h i hi
 unfold chA at this
 rw [z] at this
 exact (Bool.and_eq_true _ _).mp this
theorem gd {X : Wd} (hX : Good X) : Gd X := by
 refine ⟨fun C i hC => ?_, ?_⟩ <;> rw [hX.K]
 ·unfold isC at hC
  rw [Bool.or_eq_true, Bool.or_eq_true, Bool.or_eq_true] at hC
  rcases hC with ((h | h) | h) | h <;> rw [Nat.eq_of_beq_eq_true h] <;> exact chA_ok (by kernel_rfl) i
 ·exact all8 (p := fun m => methOK (Kf X.w.params) (mfn m).1 (mnm.getD m "?") (mfn m).2) (by kernel_rfl)
noncomputable def c97 : Cd := .l 0 (.isi 0 (.jf (.l 0 (.isi 1 (.not (.jf (.l 1 (.l 0 (.ch .LtE (.l 2 (.co .LtE .ret)) .ret))) .ret)))) .ret))
noncomputable def c114 : Cd := .l 0 (.i 1073741823 (.neg (.i 1073741823 (.f 97 3 .ret))))
noncomputable def c121 : Cd := .l 0 (.for_ (.sl 1 (.l 1 (.f 114 1 (.br .done .bad)))) .done)
noncomputable def c135 : Cd := .l 0 (.lm false (.fit (.sl 2 (.sl 3 (.l 2 (.i 0 (.i 255 (.f 97 3 (.br (.l 3 (.isi 4 (.br (.l 3 (.b .len 1 (.i 6 (.eq false (.br .bad (.l 3 (.i 4 (.ck (.slT (.f 121 1 (.pop (.l 3 (.gi 4 (.l 3 (.gi 5 (.sl 5 (.sl 4 (.l 4 (.i 0 (.i 3 (.f 97 3 (.br (.l 4 (.i 3 (.eq true (.br (.l 5 (.l 0 (.f 128 2 (.pop .done)))) (.l 5 (.i 0 (.i 255 (.f 97 3 (.br (.l 4 (.i 1 (.eq true (.br (.l 5 (.l 1 (.co .GtE (.br .bad .done)))) .done)))) .bad))))))))) .bad)))))))))))))))))))))) .bad))) .bad))))))) .done))
noncomputable def c142 : Cd := .l 0 (.for_ (.sl 1 (.l 1 (.i 0 (.sl 3 (.sl 2 (.whl (.l 2 (.l 0 (.mem true (.br (.l 0 (.l 2 (.sub (.gi 4 (.i 2 (.eq true (.br (.l 0 (.l 2 (.sub (.gi 5 (.sl 2 (.l 3 (.i 1 (.add (.sl 3 (.l 3 (.l 0 (.b .len 1 (.co .Gt (.br .bad .done)))))))))))))) .brk))))))) .brk)))) .done)))))) .done)
noncomputable def c149 : Cd := .l 0 (.b .len 1 (.sl 4 (.l 0 (.en0 .done))))
noncomputable def c156 : Cd := .l 0 (.b .len 1 (.i 0 (.eq true (.br (.i 1 (.neg .ret)) (.l 0 (.i 1 (.neg (.sub (.unp 4 (.sl 1 (.sl 2 (.sl 3 (.sl 4 (.l 1 (.i 255 (.eq true (.br (.l 3 (.ml 256 (.l 4 (.add .ret)))) (.i 1 (.neg .ret)))))))))))))))))))
noncomputable def c173 : Cd := .l 1 (.i 1 (.i 255 (.f 97 3 (.br (.l 2 (.isi 3 (.br (.l 2 (.k (.str (S "")) (.eq true (.br .bad (.l 3 (.i 1 (.i 134217727 (.f 97 3 (.br (.l 8 (.i 0 (.i 256 (.f 97 3 (.br (.l 4 (.b .len 1 (.i 64 (.co .Gt (.br .bad (.l 4 (.f 121 1 (.pop (.l 7 (.f 121 1 (.pop (.l 5 (.l 6 (.b .len 1 (.f 135 2 (.pop (.l 5 (.f 142 1 (.pop (.l 6 (.l 7 (.l 5 (.l 8 (.f 149 4 (.pop (.l 1 (.l 0 (.sa 0 (.l 2 (.l 0 (.sa 1 (.l 3 (.l 0 (.sa 2 (.l 3 (.l 0 (.sa 3 (.i 0 (.l 0 (.sa 4 (.l 4 (.b .list 1 (.l 0 (.sa 5 (.l 5 (.b .dict 1 (.l 0 (.sa 6 (.l 6 (.b .tuple 1 (.l 0 (.sa 7 (.l 7 (.b .tuple 1 (.l 0 (.sa 8 (.l 8 (.l 0 (.sa 9 (.l 6 (.f 156 1 (.l 0 (.sa 10 (.i 45 (.l 0 (.sa 11 (.i 1 (.neg (.l 0 (.sa 12 .done)))))))))))))))))))))))))))))))))))))))))))))))))))))))))))))))))))))) .bad))))) .bad))))))))) .bad))) .bad))))
noncomputable def c180 : Cd := .l 1 (.l 0 (.ga 6 (.mem true .ret)))
noncomputable def c187 : Cd := .l 0 (.ga 6 (.lm false (.l 1 (.k (.tup [.int 0, .int 0, .int 0, .int 0, .int 0, .int 0]) (.dg 2 (.gi 0 .ret))))))
noncomputable def c257 : Cd := .l 0 (.i 1 (.sb (.sl 1 (.k (.str s70) (.l 1 (.md 25 (.sub (.sl 2 (.whl (.l 1 (.i 25 (.co .GtE (.br (.l 1 (.di 25 (.sl 1 (.k (.str s70) (.l 1 (.md 25 (.sub (.l 2 (.add (.sl 2 .done)))))))))) .brk)))) (.k (.str (S "f")) (.l 2 (.add .ret))))))))))))
noncomputable def c267 : Cd := .l 0 (.i 1 (.i 255 (.f 97 3 (.br (.d0 (.sl 6 (.l 1 (.for_ (.sl 7 (.i 4 (.l 7 (.b .len 1 (.ch .LtE (.i 7 (.co .LtE (.br (.l 7 (.gi 0 (.l 6 (.mem true (.br .bad (.l 7 (.b .tuple 1 (.i 0 (.i 0 (.i 0 (.tup 3 (.add (.i 1 (.ck (.i 7 (.ck (.sl2 (.l 6 (.l 7 (.gi 0 (.ss .done))))))))))))))))))))) .bad))) (.drp .bad)))))) (.l 0 (.l 0 (.f 257 1 (.i 655360 (.l 2 (.l 6 (.l 3 (.l 4 (.l 5 (.f 246 8 .ret)))))))))))))) .bad))))
noncomputable def c285 : Cd := .l 1 (.isi 2 (.br (.l 1 (.l 0 (.sa 13 (.i 0 (.l 0 (.sa 14 .done)))))) .bad))
noncomputable def c292 : Cd := .l 0 (.ga 14 (.l 1 (.add (.sl 2 (.l 2 (.l 0 (.ga 13 (.b .len 1 (.co .Gt (.br .bad (.i 0 (.sl 3 (.l 0 (.ga 14 (.l 2 (.b .range 2 (.for_ (.sl 4 (.l 3 (.ml 256 (.l 0 (.ga 13 (.l 4 (.sub (.add (.sl 3 .done))))))))) (.l 2 (.l 0 (.sa 14 (.l 3 .ret)))))))))))))))))))))
noncomputable def c299 : Cd := .l 0 (.im 2 (.l 1 (.f 292 2 (.sl 2 (.l 1 (.i 1 (.sb (.p256 (.ml 128 (.sl 3 (.l 2 (.l 3 (.co .GtE (.br (.l 2 (.l 3 (.ml 2 (.sb .ret)))) (.l 2 .ret)))))))))))))))
noncomputable def c306 : Cd := .l 0 (.ga 14 (.l 1 (.add (.sl 2 (.l 2 (.l 0 (.ga 13 (.b .len 1 (.co .Gt (.br .bad (.l 0 (.ga 13 (.l 0 (.ga 14 (.ck (.l 2 (.ck (.sl2 (.sl 3 (.l 2 (.l 0 (.sa 14 (.l 3 .ret)))))))))))))))))))))))
noncomputable def c327 : Cd := .i 0 (.l 0 (.sa 15 (.i 0 (.l 0 (.sa 16 (.i 0 (.l 0 (.sa 17 (.i 0 (.l 0 (.sa 18 (.i 0 (.l 0 (.sa 19 (.i 0 (.l 0 (.sa 20 (.i 1 (.neg (.l 0 (.sa 21 (.lsa 0 (.l 0 (.sa 22 (.i 0 (.l 0 (.sa 23 (.lsa 0 (.l 0 (.sa 24 .done))))))))))))))))))))))))))))))
noncomputable def c334 : Cd := .l 0 (.ga 22 (.lm true (.l 0 (.ga 15 (.l 0 (.ga 16 (.l 0 (.ga 17 (.l 0 (.ga 18 (.l 0 (.ga 19 (.l 0 (.ga 20 (.tup 6 (.ap (.pop (.l 0 (.ga 23 (.l 0 (.ga 22 (.b .len 1 (.b .max 2 (.l 0 (.sa 23 .done)))))))))))))))))))))))))
noncomputable def c341 : Cd := .l 0 (.ga 22 (.b .len 1 (.i 0 (.eq true (.br .bad (.l 0 (.ga 22 (.lm true (.pp (.unp 6 (.l 0 (.sa 15 (.l 0 (.sa 16 (.l 0 (.sa 17 (.l 0 (.sa 18 (.l 0 (.sa 19 (.l 0 (.sa 20 .done))))))))))))))))))))))
noncomputable def c348 : Cd := .l 0 (.ga 15 (.l 1 (.add (.l 0 (.ga 16 (.l 2 (.add (.sl 4 (.sl 3 (.l 3 (.b .abs 1 (.i 2147483647 (.co .Gt (.br .bad (.l 4 (.b .abs 1 (.i 2147483647 (.co .Gt (.br .bad (.l 3 (.l 0 (.sa 15 (.l 4 (.l 0 (.sa 16 .done)))))))))))))))))))))))))
noncomputable def c369 : Cd := .l 1 (.l 0 (.sa 25 (.l 2 (.l 0 (.sa 26 (.lsa 0 (.l 0 (.sa 27 (.d0 (.l 0 (.sa 28 (.i 0 (.l 0 (.sa 29 (.i 0 (.l 0 (.sa 30 (.i 0 (.l 0 (.sa 23 .done))))))))))))))))))))
noncomputable def c383 : Cd := .l 0 (.im 3 (.i 4 (.f 299 2 (.l 0 (.im 3 (.i 4 (.f 299 2 (.l 0 (.im 3 (.i 4 (.f 299 2 (.tup 3 (.sl 1 (.l 1 (.b .min 1 (.i 0 (.co .LtE (.br .bad (.l 1 .ret)))))))))))))))))))
noncomputable def c388_0 : Cd := .l 9 (.l 7 (.ck (.slF (.b .list 1 (.l 10 (.ga 1 (.lc [] ⟨[(S "ord", (.builtin "ord"))], [S "mark"], [], []⟩ (.l 0 (.b .ord 1 .ret)) (.eq false (.br .bad (.l 3 (.l 4 (.l 5 (.l 6 (.l 7 (.l 9 (.tup 5 (.tup 2 .ret)))))))))))))))))
noncomputable def c388 : Cd := .l 0 (.im 2 (.l 1 (.i 243 (.sb (.i 1 (.add (.f 292 2 (.sl 3 (.l 0 (.im 2 (.i 4 (.f 292 2 (.sl 4 (.l 0 (.im 2 (.i 4 (.f 292 2 (.sl 5 (.l 0 (.im 2 (.i 4 (.f 292 2 (.sl 6 (.l 0 (.im 2 (.i 1 (.f 292 2 (.sl 7 (.l 0 (.im 2 (.i 1 (.f 292 2 (.sl 8 (.l 0 (.im 4 (.l 7 (.l 8 (.add (.f 306 2 (.sl 9 (.l 2 (.lm false (.l 3 (.dg 1 (.sl 10 (.l 10 (.k .none (.isn (.br .bad (.l 5 (.l 10 (.ga 2 (.eq false (.br .bad (.i 0 (.l 6 (.ch .Lt (.i 134217727 (.co .LtE (.br (.l 4 (.l 10 (.ga 4 (.eq false (.br (.l 4 (.i 0 (.eq false (.br (.l 10 (.ga 4 (.i 0 (.eq false (.br .bad c388_0))))) c388_0)))) c388_0))))) .bad))) (.drp .bad))))))))))))))))))))))))))))))))))))))))))))))))))))))))))
noncomputable def c395 : Cd := .i 243 (.l 0 (.ch .LtE (.i 243 (.i 4 (.add (.co .Lt .ret)))) .ret))
noncomputable def c402_0 : Cd := .l 2 (.l 3 (.tup 3 .ret))
noncomputable def c402_1 : Cd := .l 2 c402_0
noncomputable def c402_2 : Cd := .l 3 c402_0
noncomputable def c402 : Cd := .l 1 (.i 4 (.co .Lt (.br (.l 0 (.im 3 (.l 1 (.i 1 (.add (.f 299 2 c402_0)))))) (.l 1 (.i 9 (.co .Lt (.br (.l 1 (.i 4 (.co .Gt (.br (.l 0 (.im 3 (.l 1 (.i 4 (.sb (.f 299 2 (.sl 2 c402_1))))))) c402_1)))) (.l 1 (.i 9 (.co .Gt (.br (.l 0 (.im 3 (.l 1 (.i 9 (.sb (.f 299 2 (.sl 3 c402_2))))))) c402_2)))))))))))
noncomputable def c409 : Cd := .l 2 (.lm false (.l 0 (.ga 21 (.dg 1 (.sl 4 (.l 4 (.k .none (.isn (.br .bad (.l 1 (.i 255 (.co .Gt (.br .bad (.l 4 (.im 0 (.l 1 (.f 180 2 (.br (.l 0 (.ga 24 (.lm true (.i 0 (.l 0 (.ga 15 (.l 0 (.ga 16 (.l 0 (.ga 21 (.l 1 (.tup 5 (.ap (.pop (.l 3 (.br (.l 0 (.im 7 (.l 4 (.im 1 (.l 1 (.f 187 2 (.i 0 (.f 348 3 (.pop .done))))))))) .done)))))))))))))))) .bad))))))))))))))))))
noncomputable def c416_0 : Cd := .l 2 (.br (.l 1 (.im 7 (.l 4 (.i 0 (.f 348 3 (.pop .done)))))) .done)
noncomputable def c416 : Cd := .l 0 (.im 3 (.i 4 (.f 299 2 (.sl 3 (.l 0 (.im 3 (.i 4 (.f 299 2 (.sl 4 (.l 3 (.i 0 (.co .Gt (.br (.l 4 (.i 0 (.co .Gt (.br (.l 1 (.ga 24 (.lm true (.i 1 (.l 1 (.ga 15 (.l 1 (.ga 16 (.l 3 (.l 4 (.tup 5 (.ap (.pop c416_0))))))))))))) c416_0)))) c416_0)))))))))))))
noncomputable def c423 : Cd := .l 1 (.l 2 (.mem false (.br .bad (.l 1 (.l 0 (.sa 21 .done))))))
noncomputable def c430 : Cd := .l 0 (.l 1 (.l 3 (.f 388 3 (.unp 2 (.sl 4 (.sl 5 (.l 4 (.l 2 (.mem true (.br .bad (.l 5 (.l 2 (.l 4 (.ss .done))))))))))))))
noncomputable def c437_0 : Cd := .l 4 (.k (.bool true) (.f 409 4 (.pop .done)))
noncomputable def c437_1 : Cd := .l 3 (.f 423 3 (.pop .done))
noncomputable def c437_2 : Cd := .l 2 (.f 395 1 (.br (.l 0 (.l 2 (.l 3 (.l 4 (.f 430 4 (.pop .done)))))) .bad))
noncomputable def c437_3 : Cd := .i 239 (.l 2 (.ch .LtE (.i 243 (.co .Lt (.br (.l 0 (.im 2 (.l 2 (.i 239 (.sb (.i 1 (.add (.f 292 2 (.sl 6 (.l 1 (.ga 24 (.lm true (.i 2 (.l 1 (.ga 15 (.l 1 (.ga 16 (.l 0 (.im 4 (.l 6 (.f 306 2 (.tup 4 (.ap (.pop .done)))))))))))))))))))))))) c437_2))) (.drp c437_2)))
noncomputable def c437_4 : Cd := .i 235 (.l 2 (.ch .LtE (.i 239 (.co .Lt (.br (.l 1 (.l 0 (.im 2 (.l 2 (.i 235 (.sb (.i 1 (.add (.f 292 2 c437_1))))))))) c437_3))) (.drp c437_3)))
noncomputable def c437_5 : Cd := .i 171 (.l 2 (.ch .LtE (.i 235 (.co .Lt (.br (.l 1 (.l 2 (.i 171 (.sb c437_1)))) c437_4))) (.drp c437_4)))
noncomputable def c437_6 : Cd := .i 157 (.l 2 (.ch .LtE (.i 171 (.co .Lt (.br (.l 0 (.l 2 (.i 157 (.sb (.l 1 (.ga 19 (.l 1 (.ga 20 (.f 402 4 (.unp 3 (.sl 5 (.l 1 (.sa 19 (.l 1 (.sa 20 (.l 1 (.im 7 (.i 0 (.l 5 (.f 348 3 (.pop .done))))))))))))))))))))) c437_5))) (.drp c437_5)))
noncomputable def c437 : Cd := .l 2 (.i 128 (.co .Lt (.br (.l 1 (.l 2 c437_0)) (.l 2 (.i 132 (.co .Lt (.br (.l 1 (.l 0 (.im 2 (.l 2 (.i 128 (.sb (.i 1 (.add (.f 292 2 c437_0))))))))) (.l 2 (.i 132 (.eq true (.br (.l 0 (.l 1 (.k (.bool true) (.f 416 3 (.pop .done))))) (.l 2 (.i 137 (.co .Lt (.br (.l 1 (.l 0 (.im 2 (.l 2 (.i 133 (.sb (.i 1 (.add (.f 292 2 (.l 4 (.k (.bool false) (.f 409 4 (.pop .done))))))))))))) (.l 2 (.i 137 (.eq true (.br (.l 0 (.l 1 (.k (.bool false) (.f 416 3 (.pop .done))))) (.l 2 (.i 138 (.eq true (.br (.k .none .ret) (.l 2 (.i 141 (.eq true (.br (.l 1 (.im 5 (.f 334 1 (.pop .done)))) (.l 2 (.i 142 (.eq true (.br (.l 1 (.im 6 (.f 341 1 (.pop .done)))) (.i 143 (.l 2 (.ch .LtE (.i 157 (.co .Lt (.br (.l 0 (.l 2 (.i 143 (.sb (.l 1 (.ga 17 (.l 1 (.ga 18 (.f 402 4 (.unp 3 (.sl 5 (.l 1 (.sa 17 (.l 1 (.sa 18 (.l 1 (.im 7 (.l 5 (.i 0 (.f 348 3 (.pop .done))))))))))))))))))))) c437_6))) (.drp c437_6)))))))))))))))))))))))))))))))))))
noncomputable def c442 : Cd := .i 10 (.b .range 1 (.lc [0] ⟨[], [S "place"], [], [S "stream"]⟩ (.e 0 (.im 3 (.i 4 (.f 299 2 .ret)))) (.b .tuple 1 (.sl 3 (.e 0 (.im 3 (.i 4 (.f 299 2 (.l 0 (.eq false (.br .bad (.f 351 0 (.sl 4 (.e 0 (.im 2 (.i 1 (.f 292 2 (.sl 5 (.whl (.l 5 (.i 140 (.eq false (.br (.e 0 (.l 4 (.l 5 (.l 1 (.l 2 (.f 437 5 (.pop (.e 0 (.im 2 (.i 1 (.f 292 2 (.sl 5 .done)))))))))))) .brk)))) (.l 4 (.ga 22 (.b .len 1 (.i 0 (.co .Gt (.br .bad (.l 3 (.l 4 (.tup 2 .ret))))))))))))))))))))))))))))
noncomputable def c449_0 : Cd := .l 0 (.im 2 (.i 1 (.f 292 2 (.sl 4 .done))))
noncomputable def c449 : Cd := .d0 (.sl 3 (.l 0 (.im 2 (.i 1 (.f 292 2 (.sl 4 (.whl (.l 4 (.i 249 (.eq false (.br (.l 4 (.f 395 1 (.br (.l 0 (.l 4 (.l 2 (.f 388 3 (.unp 2 (.sl 5 (.sl 6 (.l 5 (.l 3 (.mem true (.br .bad (.l 1 (.lm false (.l 5 (.dg 1 (.l 6 (.eq false (.br .bad (.l 6 (.l 3 (.l 5 (.ss c449_0)))))))))))))))))))))) (.l 4 (.i 138 (.eq false (.br .bad c449_0))))))) .brk)))) (.l 3 (.b .len 1 (.l 1 (.b .len 1 (.eq false (.br .bad .done)))))))))))))
noncomputable def c454 : Cd := .l 0 (.ga 14 (.i 1 (.sb (.sl 4 (.l 0 (.im 3 (.i 4 (.f 299 2 (.l 2 (.eq false (.br .bad (.l 0 (.f 383 1 (.l 1 (.ga 25 (.eq false (.br .bad (.l 0 (.im 3 (.i 4 (.f 299 2 (.l 1 (.sa 29 (.l 0 (.im 3 (.i 4 (.f 299 2 (.l 1 (.sa 30 (.l 0 (.im 2 (.i 2 (.f 292 2 (.l 1 (.ga 23 (.co .Lt (.br .bad (.l 0 (.im 2 (.i 2 (.f 292 2 (.l 1 (.ga 27 (.b .len 1 (.md 65536 (.eq false (.br .bad (.l 0 (.l 1 (.ga 28 (.l 3 (.f 449 3 (.pop (.l 0 (.im 2 (.i 4 (.f 292 2 (.l 4 (.eq false (.br .bad (.l 0 (.im 2 (.i 1 (.f 292 2 (.i 2 (.eq false (.br .bad (.l 0 (.im 4 (.l 0 (.ga 13 (.b .len 1 (.l 0 (.ga 14 (.sb (.f 306 2 (.sl 5 (.l 5 (.b .len 1 (.i 4 (.co .Lt (.br .bad (.l 5 (.lc [] ⟨[(S "FILLING", (.int 223 230))], [S "octet"], [], []⟩ (.l 0 (.i 223 (.eq false (.br (.l 0 .ret) .cont)))) (.lst 0 (.eq false (.br .bad .done)))))))))))))))))))))))))))))))))))))))))))))))))))))))))))))))))))))))))))))))))))))))
noncomputable def c461_0 : Cd := .l 2 (.im 2 (.i 1 (.f 292 2 (.sl 7 .done))))
noncomputable def c461 : Cd := .l 0 (.f 309 1 (.sl 2 (.l 2 (.im 2 (.i 1 (.f 292 2 (.i 247 (.eq false (.br .bad (.l 2 (.im 2 (.i 1 (.f 292 2 (.i 2 (.eq false (.br .bad (.l 2 (.f 383 1 (.sl 3 (.l 2 (.im 2 (.i 1 (.f 292 2 (.sl 4 (.l 3 (.l 2 (.im 4 (.l 4 (.f 306 2 (.f 372 2 (.sl 5 (.i 1 (.neg (.sl 6 (.l 2 (.im 2 (.i 1 (.f 292 2 (.sl 7 (.whl (.l 7 (.i 248 (.eq false (.br (.l 2 (.ga 14 (.i 1 (.sb (.sl 8 (.l 7 (.i 139 (.eq true (.br (.l 2 (.l 6 (.l 5 (.ga 28 (.l 1 (.f 442 4 (.unp 2 (.sl 9 (.sl 10 (.l 5 (.ga 27 (.lm true (.l 9 (.l 10 (.ga 24 (.b .tuple 1 (.tup 2 (.ap (.pop (.l 5 (.ga 23 (.l 10 (.ga 23 (.b .max 2 (.l 5 (.sa 23 (.l 8 (.sl 6 c461_0)))))))))))))))))))))))))))) (.l 7 (.f 395 1 (.br (.l 2 (.l 7 (.l 5 (.ga 28 (.l 1 (.f 430 4 (.pop c461_0))))))) (.l 7 (.i 138 (.eq false (.br .bad c461_0)))))))))))))))) .brk)))) (.l 2 (.l 5 (.l 6 (.l 1 (.f 454 4 (.pop (.l 5 .ret)))))))))))))))))))))))))))))))))))))))))))))))
noncomputable def c466_0 : Cd := .sl 2 (.l 2 (.i 0 (.l 2 (.md 65537 (.lsa 3 .ret)))))
noncomputable def c466 : Cd := .l 1 (.l 0 (.b .len 1 (.co .Lt (.br (.l 0 (.l 1 (.sub (.b .int 1 (.b .abs 1 c466_0))))) (.l 1 (.ml 7919 (.i 20011 (.add (.l 0 (.lc [] ⟨[(S "abs", (.builtin "abs")), (S "int", (.type "int"))], [S "other"], [], []⟩ (.l 0 (.b .int 1 (.b .abs 1 .ret))) (.b .sum 1 (.md 99991 (.add c466_0)))))))))))))
noncomputable def c473 : Cd := .l 0 (.gi 0 (.i 1000000000000000000 (.co .GtE (.br (.l 0 (.gi 0 (.l 1 (.mod (.sl 2 (.l 0 (.gi 0 (.l 1 (.div (.l 0 (.i 0 (.ss (.l 2 .ret))))))))))))) (.l 0 (.gi 1 (.i 1 (.add (.l 0 (.i 1 (.ss (.l 0 (.gi 2 (.l 0 (.gi 1 (.ml 7103 (.add (.md 65537 (.sl 3 (.l 3 (.l 3 (.mul (.md 65521 (.di 16 (.l 1 (.mod .ret))))))))))))))))))))))))))
noncomputable def c480 : Cd := .i 3 (.ck (.i 65 (.ck (.i 5 (.i 97 (.ck (.i 3 (.neg (.i 200 (.ck (.i 70000 (.dd 3 (.i 70 (.ck (.i 66 (.ck (.i 9 (.i 98 (.ck (.i 0 (.i 255 (.ck (.i 1048573 (.dd 3 (.dd 2 (.l 0 (.sub .ret)))))))))))))))))))))))))))
noncomputable def c485 : Cd := .l 0 (.i 1 (.sb (.i 1 (.neg (.i 1 (.neg (.b .range 3 (.lc [0] ⟨[], [S "place"], [], [S "value"]⟩ (.e 0 (.l 0 (.p256 (.div (.md 256 .ret))))) .ret))))))))
noncomputable def c492 : Cd := .l 0 (.i 8 (.f 473 2 (.l 0 (.i 64 (.f 473 2 (.i 32 (.sb (.sl 2 (.sl 1 (.l 1 (.i 3 (.co .Lt (.br (.l 2 (.i 0 (.co .Gt (.br (.l 1 (.p256 (.ml 128 (.i 1 (.sb .ret))))) (.i 128 (.neg (.l 1 (.p256 (.mul .ret))))))))) (.l 2 (.i 1 (.i 4 (.i 37 (.i 4099 (.i 1048573 (.tup 5 (.l 1 (.i 3 (.sb (.sub (.mul .ret)))))))))))))))))))))))))
noncomputable def c499_0 : Cd := .l 3 (.i 1 (.add (.sl 3 .done)))
noncomputable def c499 : Cd := .i 1 (.sl 3 (.whl (.i 128 (.neg (.l 3 (.i 1 (.sb (.p256 (.mul (.l 1 (.ch .LtE (.l 3 (.i 1 (.sb (.p256 (.ml 128 (.co .Lt (.br .brk c499_0))))))) (.drp c499_0)))))))))) (.l 3 (.l 2 (.add (.i 4 (.b .min 2 (.sl 3 (.l 0 (.l 3 (.add (.i 1 (.sb (.lst 1 (.l 1 (.l 3 (.f 485 2 (.add .ret))))))))))))))))))
noncomputable def c506 : Cd := .l 0 (.gi 5 (.lm true (.i 141 (.lst 1 (.l 1 (.add (.i 142 (.lst 1 (.add (.ex (.pop (.l 0 (.gi 7 (.l 0 (.gi 1 (.b .len 1 (.i 1 (.add (.b .max 2 (.l 0 (.i 7 (.ss .done))))))))))))))))))))))
noncomputable def c513 : Cd := .l 0 (.i 8 (.f 473 2 (.sl 2 (.l 2 (.i 2 (.co .Lt (.br (.l 1 (.gi 5 (.lm true (.i 138 (.ap (.pop .done)))))) (.l 2 (.i 2 (.eq true (.br (.l 1 (.gi 5 (.lm true (.i 137 (.i 0 (.i 0 (.i 0 (.i 0 (.i 0 (.i 0 (.i 1 (.i 44 (.lst 9 (.ex (.pop .done))))))))))))))) (.l 2 (.i 5 (.co .Lt (.br (.l 0 (.i 256 (.f 473 2 (.l 0 (.i 256 (.f 473 2 (.sl 4 (.sl 3 (.l 1 (.l 2 (.i 3 (.eq true (.br (.lst 0 (.f 506 2 (.pop .done))) (.i 148 (.i 153 (.tup 2 (.l 3 (.md 2 (.sub (.l 3 (.i 162 (.i 167 (.tup 2 (.l 4 (.md 2 (.sub (.l 4 (.lst 4 (.f 506 2 (.pop .done)))))))))))))))))))))))))))))) .done)))))))))))))))
noncomputable def c520_0 : Cd := .pop (.l 4 (.br (.l 1 (.gi 0 (.gi 0 (.l 6 (.add (.l 1 (.gi 0 (.i 0 (.ss .done))))))))) .done))
noncomputable def c520_1 : Cd := .add (.ex c520_0)
noncomputable def c520_2 : Cd := .l 5 (.add (.lst 1 (.l 2 (.l 5 (.f 485 2 c520_1)))))
noncomputable def c520_3 : Cd := .ex (.pop (.l 3 (.i 0 (.co .Gt (.br (.l 1 (.gi 5 (.lm true (.l 4 (.br (.i 127 c520_2) (.i 132 c520_2)))))) (.l 4 (.br (.l 1 (.gi 5 (.lm true (.i 133 (.l 2 (.lst 2 (.i 143 (.l 6 (.i 1 (.f 499 3 c520_1)))))))))) (.l 1 (.i 128 (.l 2 (.lst 2 (.f 506 2 c520_0))))))))))))
noncomputable def c520_4 : Cd := .l 2 (.lst 2 c520_3)
noncomputable def c520_5 : Cd := .l 4 (.br (.i 128 c520_4) (.i 133 c520_4))
noncomputable def c520 : Cd := .l 1 (.gi 3 (.f 480 1 (.b .sorted 1 (.l 0 (.i 3 (.f 473 2 (.sub (.l 0 (.i 3 (.f 473 2 (.sl 3 (.sl 2 (.l 0 (.i 3 (.f 473 2 (.i 0 (.co .Gt (.i 2 (.l 0 (.i 3 (.f 473 2 (.add (.l 1 (.gi 3 (.f 480 1 (.l 2 (.sub (.sl 6 (.sl 5 (.sl 4 (.l 1 (.gi 2 (.lm true (.i 0 (.l 1 (.gi 0 (.gi 0 (.l 1 (.gi 0 (.gi 1 (.l 1 (.gi 3 (.l 2 (.tup 5 (.ap (.pop (.l 1 (.gi 4 (.lm true (.l 4 (.br (.l 2 (.i 128 (.co .Lt (.br (.l 2 (.lst 1 c520_3)) c520_5)))) c520_5)))))))))))))))))))))))))))))))))))))))))))))))))))
noncomputable def c527_0 : Cd := .lst 1 (.l 5 (.add (.ex (.pop (.l 4 (.br (.l 1 (.gi 5 (.lm true (.i 137 (.lst 1 (.l 5 (.add (.i 143 (.l 3 (.i 1 (.f 499 3 (.add (.ex (.pop (.l 1 (.gi 0 (.gi 0 (.l 3 (.add (.l 1 (.gi 0 (.i 0 (.ss .done))))))))))))))))))))))) (.l 1 (.i 132 (.lst 1 (.l 5 (.add (.f 506 2 (.pop .done)))))))))))))
noncomputable def c527_1 : Cd := .l 1 (.gi 4 (.lm true (.l 4 (.br (.i 132 c527_0) (.i 137 c527_0)))))
noncomputable def c527_2 : Cd := .l 2 (.i 4 (.f 485 2 (.l 3 (.i 4 (.f 485 2 (.add (.sl 5 (.l 2 (.i 0 (.co .Gt (.br (.l 3 (.i 0 (.co .Gt (.br (.l 1 (.gi 2 (.lm true (.i 1 (.l 1 (.gi 0 (.gi 0 (.l 1 (.gi 0 (.gi 1 (.l 2 (.l 3 (.tup 5 (.ap (.pop c527_1))))))))))))))) c527_1)))) c527_1)))))))))))
noncomputable def c527 : Cd := .l 0 (.f 492 1 (.l 0 (.f 492 1 (.l 0 (.i 2 (.f 473 2 (.i 1 (.eq true (.sl 4 (.sl 3 (.sl 2 (.l 0 (.i 3 (.f 473 2 (.i 0 (.co .Gt (.br (.l 2 (.b .abs 1 (.l 3 (.b .abs 1 (.sl 3 (.sl 2 c527_2)))))) c527_2)))))))))))))))))
noncomputable def c534_0 : Cd := .l 5 (.l 2 (.sub (.l 7 (.add (.l 5 (.l 2 (.ss .done)))))))
noncomputable def c534_1 : Cd := .pop c534_0
noncomputable def c534_2 : Cd := .l 7 (.l 4 (.i 1 (.sb (.f 499 3 (.ex c534_1)))))
noncomputable def c534_3 : Cd := .ex (.pop (.l 3 (.i 0 (.co .Gt (.br (.l 7 (.l 5 (.l 2 (.ml 2 (.l 3 (.add (.i 1 (.add (.ss c534_0))))))))) c534_0)))))
noncomputable def c534_4 : Cd := .l 1 (.gi 5 (.lm true (.l 6 (.l 3 (.ml 5 (.add (.l 7 (.l 4 (.f 499 3 c534_3)))))))))
noncomputable def c534_5 : Cd := .l 3 (.i 2 (.co .Gt (.br (.l 5 (.l 2 (.ml 2 (.l 3 (.add (.i 1 (.sb (.sub (.sl 7 (.l 1 (.gi 4 (.lm true (.l 6 (.l 3 (.ml 5 (.add (.i 11 (.sb (.ap (.pop (.l 4 (.i 0 (.eq true (.br (.l 1 (.gi 5 (.lm true (.l 6 (.l 3 (.ml 5 (.add (.i 11 (.sb (.ap c534_1)))))))))) (.l 1 (.gi 5 (.lm true (.l 4 (.i 1 (.eq true (.br (.l 6 c534_2) (.l 6 (.l 3 (.ml 5 (.add (.i 10 (.sb c534_2))))))))))))))))))))))))))))))))))))) (.l 0 (.f 492 1 (.sl 7 (.l 1 (.gi 4 (.lm true (.l 6 (.l 3 (.ml 5 (.add (.l 7 (.i 0 (.f 499 3 (.ex (.pop (.l 3 (.i 0 (.eq true (.br (.l 4 (.i 0 (.eq true (.br (.l 1 (.gi 5 (.lm true (.l 6 (.l 7 (.di 2 (.i 0 (.f 499 3 (.l 6 (.l 7 (.l 7 (.di 2 (.sb (.i 1 (.f 499 3 (.add c534_3)))))))))))))))) c534_4)))) c534_4))))))))))))))))))))))
noncomputable def c534 : Cd := .l 0 (.i 2 (.f 473 2 (.l 0 (.i 5 (.f 473 2 (.l 0 (.i 4 (.f 473 2 (.l 1 (.gi 0 (.tup 4 (.unp 4 (.sl 2 (.sl 3 (.sl 4 (.sl 5 (.i 143 (.l 2 (.ml 14 (.add (.sl 6 (.l 3 (.i 2 (.co .Gt (.br (.l 5 (.l 2 (.ml 2 (.l 3 (.add (.i 1 (.sb (.sub (.i 0 (.eq true (.br (.l 3 (.i 2 (.sb (.sl 3 c534_5)))) c534_5))))))))))) c534_5)))))))))))))))))))))))))
noncomputable def c541 : Cd := .i 242 (.l 1 (.add (.lst 1 (.l 0 (.l 1 (.f 485 2 (.add (.l 2 (.add .ret)))))))))
noncomputable def c546_0 : Cd := .ex (.pop (.l 1 (.gi 5 (.lm true (.i 234 (.l 5 (.add (.lst 1 (.l 4 (.l 5 (.f 485 2 (.add (.ex (.pop .done))))))))))))))
noncomputable def c546_1 : Cd := .l 4 (.l 1 (.i 3 (.ss (.l 1 (.gi 4 (.lm true (.l 4 (.i 64 (.co .Lt (.br (.i 171 (.l 4 (.add (.lst 1 c546_0)))) (.i 235 (.l 4 (.lst 2 c546_0)))))))))))))
noncomputable def c546_2 : Cd := .sl 13 (.l 13 (.lm true (.l 4 (.l 5 (.l 12 (.f 541 3 (.ex (.pop c546_1))))))))
noncomputable def c546 : Cd := .i 3 (.i 70 (.tup 2 (.l 0 (.i 2 (.f 473 2 (.sub (.i 1 (.l 0 (.i 4 (.f 473 2 (.add (.l 0 (.i 2 (.f 473 2 (.sl 6 (.sl 5 (.sl 4 (.l 4 (.l 2 (.gi 0 (.mem false (.br (.l 3 (.l 4 (.sub (.l 0 (.i 2 (.f 473 2 (.mi 77 (.i 1 (.l 0 (.i 32 (.f 473 2 (.ml 4099 (.add (.l 0 (.i 3 (.f 473 2 (.tup 4 (.unp 4 (.sl 7 (.sl 8 (.sl 9 (.sl 10 (.i 47 (.lst 1 (.l 10 (.mul (.l 7 (.ga 1 (.lc [] ⟨[(S "ord", (.builtin "ord"))], [S "mark"], [], []⟩ (.l 0 (.b .ord 1 .ret)) (.add (.sl 11 (.l 8 (.i 4 (.f 485 2 (.l 7 (.ga 2 (.i 4 (.f 485 2 (.add (.l 9 (.i 4 (.f 485 2 (.add (.l 10 (.l 11 (.b .len 1 (.l 10 (.sb (.lst 2 (.add (.l 11 (.add (.sl 12 (.l 12 (.l 8 (.l 7 (.ga 2 (.l 9 (.l 10 (.l 11 (.b .bytes 1 (.tup 5 (.tup 2 (.l 2 (.gi 0 (.l 4 (.ss (.l 1 (.gi 4 (.lm true (.l 4 (.i 1 (.l 12 (.f 541 3 (.ex (.pop (.l 6 (.i 0 (.eq true (.br (.l 2 (.gi 1 c546_2)) (.l 1 (.gi 5 c546_2)))))))))))))))))))))))))))))))))))))))))))))))))))))))))))))))))))))))))))))))))) c546_1))))))))))))))))))))))
noncomputable def c551 : Cd := .e 0 (.i 4 (.f 473 2 (.b .range 1 (.lc [0] ⟨[(S "_law_take", (.ref 473))], [S "lap"], [], [S "source"]⟩ (.i 65 (.i 0 (.i 255 (.i 139 (.tup 4 (.e 0 (.i 4 (.f 473 2 (.sub .ret))))))))) (.i 1 (.e 0 (.i 4 (.f 473 2 (.add (.sl 2 (.sl 1 (.l 0 (.gi 2 (.lm true (.i 2 (.l 0 (.gi 0 (.gi 0 (.l 0 (.gi 0 (.gi 1 (.l 1 (.b .bytes 1 (.tup 4 (.ap (.pop (.l 0 (.gi 4 (.lm true (.i 239 (.l 1 (.b .len 1 (.lst 2 (.l 1 (.add (.ex (.pop (.l 0 (.gi 5 (.lm true (.i 238 (.l 2 (.add (.lst 1 (.l 1 (.b .len 1 (.l 2 (.f 485 2 (.add (.l 1 (.add (.ex (.pop .done)))))))))))))))))))))))))))))))))))))))))))))))))))))
noncomputable def c558_0 : Cd := .l 0 (.l 1 (.l 2 (.l 3 (.f 546 4 (.pop .done)))))
noncomputable def c558_1 : Cd := .l 1 (.gi 1 (.lm true (.l 1 (.gi 0 (.b .list 1 (.ap (.pop (.l 1 (.gi 4 (.lm true (.i 141 (.ap (.pop (.l 1 (.gi 5 (.lm true (.i 141 (.ap (.pop (.l 1 (.gi 6 (.l 1 (.gi 1 (.b .len 1 (.b .max 2 (.l 1 (.gi 7 (.l 1 (.gi 1 (.b .len 1 (.b .max 2 (.tup 2 (.unp 2 (.l 1 (.i 6 (.ss (.l 1 (.i 7 (.ss .done)))))))))))))))))))))))))))))))))))))))
noncomputable def c558_2 : Cd := .l 4 (.i 6 (.co .Lt (.br (.l 0 (.l 1 (.f 520 2 (.pop .done)))) (.l 4 (.i 12 (.co .Lt (.br (.l 0 (.l 1 (.f 534 2 (.pop .done)))) (.l 4 (.i 12 (.eq true (.br (.l 0 (.l 1 (.f 551 2 (.pop .done)))) (.l 4 (.i 15 (.eq true (.br (.l 0 (.l 1 (.f 527 2 (.pop .done)))) (.l 4 (.i 14 (.eq true (.br (.l 1 (.gi 1 (.lst 0 (.eq false (.br (.l 1 (.gi 1 (.lm true (.pp (.l 1 (.i 0 (.ss (.l 1 (.gi 4 (.lm true (.i 142 (.ap (.pop (.l 1 (.gi 5 (.lm true (.i 142 (.ap (.pop .done))))))))))))))))))) c558_1))))) c558_1)))))))))))))))))))
noncomputable def c558 : Cd := .l 0 (.l 1 (.f 513 2 (.pop (.l 0 (.i 16 (.f 473 2 (.sl 4 (.l 4 (.i 6 (.co .Lt (.br (.l 4 (.i 5 (.eq true (.br c558_0 (.l 1 (.gi 3 (.i 0 (.eq true (.br c558_0 c558_2))))))))) c558_2)))))))))))
noncomputable def c563 : Cd := .l 0 (.f 492 1 (.se 0 (.i 0 (.lsa 1 (.i 6 (.mul (.lsa 0 (.lsa 0 (.i 0 (.lsa 0 (.lsa 0 (.i 0 (.i 0 (.i 10 (.b .range 1 (.lc [0] ⟨[], [S "place"], [], [S "first"]⟩ (.e 0 (.l 0 (.ml 77 (.sb .ret)))) (.lsa 9 (.sl 3 (.i 3 (.l 0 (.i 8 (.f 473 2 (.add (.b .range 1 (.for_ (.sl 4 (.l 0 (.l 3 (.l 1 (.l 2 (.f 558 4 (.pop .done))))))) (.i 4 (.i 5 (.tup 2 (.for_ (.sl 5 (.l 3 (.l 5 (.sub (.lm true (.i 142 (.lsa 1 (.l 3 (.gi 1 (.b .len 1 (.mul (.ex (.pop .done))))))))))))) (.l 3 .ret))))))))))))))))))))))))))))))
noncomputable def c570 : Cd := .i 247 (.i 2 (.lst 2 (.l 0 (.gi 0 (.add (.l 0 (.gi 1 (.add (.l 3 (.add (.i 1 (.neg (.sl 9 (.sl 8 (.l 1 (.for_ (.sl 10 (.l 8 (.b .len 1 (.lst 0 (.sl 12 (.sl 11 (.l 10 (.gi 8 (.for_ (.sl 13 (.l 12 (.l 13 (.i 4 (.f 485 2 (.add (.sl 12 .done))))))) (.l 8 (.i 139 (.lst 1 (.add (.l 12 (.add (.l 9 (.i 4 (.f 485 2 (.add (.l 10 (.l 2 (.sub (.add (.i 140 (.lst 1 (.add (.l 4 (.add (.sl 8 (.l 11 (.sl 9 .done))))))))))))))))))))))))))))))) (.l 8 (.b .len 1 (.sl 14 (.l 8 (.i 248 (.lst 1 (.add (.l 9 (.i 4 (.f 485 2 (.add (.l 0 (.gi 0 (.add (.l 0 (.gi 2 (.add (.l 6 (.i 2 (.f 485 2 (.add (.l 1 (.b .len 1 (.i 2 (.f 485 2 (.add (.sl 8 (.l 8 (.l 4 (.add (.l 5 (.add (.i 249 (.lst 1 (.add (.l 14 (.i 4 (.f 485 2 (.add (.i 2 (.lst 1 (.add (.i 223 (.lst 1 (.l 7 (.mul (.add (.b .bytes 1 .ret))))))))))))))))))))))))))))))))))))))))))))))))))))))))))))))))
noncomputable def c577 : Cd := .l 0 (.l 1 (.f 461 2 (.sl 2 (.l 2 (.ga 25 (.l 2 (.ga 26 (.l 2 (.ga 27 (.l 2 (.ga 28 (.l 2 (.ga 29 (.l 2 (.ga 30 (.l 2 (.ga 23 (.tup 7 .ret))))))))))))))))))
noncomputable def c582 : Cd := .l 0 (.i 4 (.ck (.slT (.sl 0 (.l 0 (.i 0 (.f 466 2 (.d0 (.lsa 0 (.lsa 2 (.d0 (.lsa 0 (.tup 4 (.unp 4 (.se 0 (.se 1 (.sl 1 (.sl 2 (.i 3 (.i 70 (.tup 2 (.for_ (.sl 3 (.l 3 (.f 480 1 (.se 2 (.l 3 (.e 2 (.b .sorted 1 (.lc [2] ⟨[], [S "code"], [], [S "by_code"]⟩ (.l 0 (.e 0 (.l 0 (.sub (.i 0 (.i 0 (.tup 4 .ret))))))) (.f 267 2 (.l 1 (.l 3 (.ss .done)))))))))))) (.i 77 (.l 1 (.gi 3 (.sa 4 (.i 25400000 (.e 0 (.i 8 (.f 473 2 (.add (.i 473628672 (.i 1 (.e 0 (.i 64 (.f 473 2 (.add (.tup 3 (.e 0 (.i 4 (.f 473 2 (.b .range 1 (.lc [0] ⟨[(S "_law_take", (.ref 473))], [S "lap"], [], [S "source"]⟩ (.i 71 (.i 0 (.i 248 (.i 32 (.tup 4 (.e 0 (.i 4 (.f 473 2 (.sub .ret))))))))) (.sl 5 (.sl 4 (.e 0 (.f 492 1 (.e 0 (.f 492 1 (.sl 7 (.sl 6 (.i 1 (.i 2 (.i 1 (.i 3 (.i 2 (.i 1 (.i 2 (.i 0 (.tup 8 (.e 0 (.i 8 (.f 473 2 (.sub (.b .range 1 (.for_ (.sl 8 (.l 2 (.lm true (.l 0 (.i 1 (.l 8 (.add (.f 466 2 (.e 1 (.l 1 (.f 563 3 (.ap (.pop .done))))))))))))) (.l 4 (.gi 0 (.i 4 (.f 485 2 (.l 4 (.gi 1 (.i 4 (.f 485 2 (.add (.l 4 (.gi 2 (.i 4 (.f 485 2 (.add (.l 5 (.b .len 1 (.lsa 1 (.l 5 (.add (.l 6 (.i 4 (.f 485 2 (.l 7 (.i 4 (.f 485 2 (.add (.tup 3 (.sl 9 (.lsa 0 (.lsa 0 (.sl 11 (.sl 10 (.e 1 (.gi 0 (.b .sorted 1 (.for_ (.sl 3 (.l 10 (.l 3 (.i 1 (.e 1 (.gi 0 (.l 3 (.sub (.gi 0 (.f 541 3 (.add (.sl 10 (.l 3 (.i 1 (.e 0 (.i 4 (.f 473 2 (.add (.e 1 (.gi 0 (.l 3 (.sub (.gi 0 (.f 541 3 (.l 11 (.add (.sl 11 .done))))))))))))))))))))))))))) (.i 0 (.lsa 1 (.l 2 (.lc [] ⟨[], [S "page"], [], []⟩ (.l 0 (.gi 6 .ret)) (.add (.b .max 1 (.i 0 (.lsa 1 (.l 2 (.lc [] ⟨[], [S "page"], [], []⟩ (.l 0 (.gi 7 .ret)) (.add (.b .max 1 (.sl 13 (.sl 12 (.l 9 (.l 2 (.i 4 (.lsa 0 (.lsa 0 (.l 10 (.l 12 (.i 4 (.e 0 (.i 4 (.f 473 2 (.add (.f 570 8 (.sl 14 (.l 9 (.l 2 (.i 5 (.e 1 (.gi 1 (.i 138 (.lsa 1 (.e 0 (.i 3 (.f 473 2 (.mul (.l 11 (.l 13 (.e 0 (.i 300 (.f 473 2 (.add (.i 4 (.e 0 (.i 9 (.f 473 2 (.add (.f 570 8 (.sl 15 (.e 1 (.gi 0 (.b .sorted 1 (.dc [1] ⟨[], [S "which"], [], [S "told"]⟩ (.e 0 (.gi 0 (.l 0 (.sub (.gi 1 .ret))))) (.sl 16 (.l 4 (.l 5 (.b .bytes 1 (.l 2 (.lc [] ⟨[(S "tuple", (.type "tuple"))], [S "page"], [], []⟩ (.l 0 (.gi 8 (.b .tuple 1 (.l 0 (.gi 2 (.b .tuple 1 (.tup 2 .ret))))))) (.l 16 (.l 6 (.l 7 (.tup 6 (.sl 17 (.l 14 (.l 1 (.f 577 2 (.l 17 (.l 12 (.tup 1 (.add (.eq true (.jf (.l 15 (.l 1 (.f 577 2 (.l 17 (.l 13 (.tup 1 (.add (.eq true .ret)))))))) .ret))))))))))))))))))))))))))))))))))))))))))))))))))))))))))))))))))))))))))))))))))))))))))))))))))))))))))))))))))))))))))))))))))))))))))))))))))))))))))))))))))))))))))))))))))
theorem fa97 {X : Wd} (hX : Good X) : fact X.K 97 = (true, c97, [S "value", S "low", S "high"], [S "value", S "low", S "high"], []) := by rw [hX.K]; kernel_rfl
theorem en97 {X : Wd} (hX : Good X) {v0 v1 v2 : W} {l : Hl} {K : W -> Hl -> Prop} (h : ∀ κ, ru X κ (RQ K) c97 [] (.s v0 (.s v1 (.s v2 .nil))) (.nil) l) : WC2 X 97 [v0, v1, v2] l K :=
 WD2.wc <| wd_run0 (gd hX) (fa97 hX) (by rw [hX.K]; exact bind3 fun _ _ _ => by kernel_rfl) rfl (by kernel_rfl) (by kernel_rfl) h
theorem fa114 {X : Wd} (hX : Good X) : fact X.K 114 = (true, c114, [S "value"], [S "value"], []) := by rw [hX.K]; kernel_rfl
theorem en114 {X : Wd} (hX : Good X) {v0 : W} {l : Hl} {K : W -> Hl -> Prop} (h : ∀ κ, ru X κ (RQ K) c114 [] (.s v0 .nil) (.nil) l) : WC2 X 114 [v0] l K :=
 WD2.wc <| wd_run0 (gd hX) (fa114 hX) (by rw [hX.K]; exact bind1 fun _ => by kernel_rfl) rfl (by kernel_rfl) (by kernel_rfl) h
theorem fa121 {X : Wd} (hX : Good X) : fact X.K 121 = (true, c121, [S "sizes"], [S "sizes", S "size"], []) := by rw [hX.K]; kernel_rfl
theorem en121 {X : Wd} (hX : Good X) {v0 : W} {l : Hl} {K : W -> Hl -> Prop} (h : ∀ κ, ru X κ (RQ K) c121 [] (.s v0 (.o .nil)) (.nil) l) : WC2 X 121 [v0] l K :=
 WD2.wc <| wd_run0 (gd hX) (fa121 hX) (by rw [hX.K]; exact bind1 fun _ => by kernel_rfl) rfl (by kernel_rfl) (by kernel_rfl) h
theorem fa135 {X : Wd} (hX : Good X) : fact X.K 135 = (true, c135, [S "chars", S "many"], [S "chars", S "many", S "code", S "row", S "sort", S "rest"], []) := by rw [hX.K]; kernel_rfl
theorem en135 {X : Wd} (hX : Good X) {v0 v1 : W} {l : Hl} {K : W -> Hl -> Prop} (h : ∀ κ, ru X κ (RQ K) c135 [] (.s v0 (.s v1 (.o (.o (.o (.o .nil)))))) (.nil) l) : WC2 X 135 [v0, v1] l K :=
 WD2.wc <| wd_run0 (gd hX) (fa135 hX) (by rw [hX.K]; exact bind2 fun _ _ => by kernel_rfl) rfl (by kernel_rfl) (by kernel_rfl) h
theorem fa142 {X : Wd} (hX : Good X) : fact X.K 142 = (true, c142, [S "chars"], [S "chars", S "code", S "far", S "turns"], []) := by rw [hX.K]; kernel_rfl
theorem en142 {X : Wd} (hX : Good X) {v0 : W} {l : Hl} {K : W -> Hl -> Prop} (h : ∀ κ, ru X κ (RQ K) c142 [] (.s v0 (.o (.o (.o .nil)))) (.nil) l) : WC2 X 142 [v0] l K :=
 WD2.wc <| wd_run0 (gd hX) (fa142 hX) (by rw [hX.K]; exact bind1 fun _ => by kernel_rfl) rfl (by kernel_rfl) (by kernel_rfl) h
theorem fa149 {X : Wd} (hX : Good X) : fact X.K 149 = (true, c149, [S "program", S "kerns", S "chars", S "boundary"], [S "program", S "kerns", S "chars", S "boundary", S "many", S "place", S "row", S "octet", S "skip", S "following", S "op", S "rest"], []) := by rw [hX.K]; kernel_rfl
theorem en149 {X : Wd} (hX : Good X) {v0 v1 v2 v3 : W} {l : Hl} {K : W -> Hl -> Prop} (h : ∀ κ, ru X κ (RQ K) c149 [] (.s v0 (.s v1 (.s v2 (.s v3 (.o (.o (.o (.o (.o (.o (.o (.o .nil)))))))))))) (.nil) l) : WC2 X 149 [v0, v1, v2, v3] l K :=
 WD2.wc <| wd_run0 (gd hX) (fa149 hX) (by rw [hX.K]; exact bind4 fun _ _ _ _ => by kernel_rfl) rfl (by kernel_rfl) (by kernel_rfl) h
theorem fa156 {X : Wd} (hX : Good X) : fact X.K 156 = (true, c156, [S "program"], [S "program", S "skip", S "following", S "op", S "rest"], []) := by rw [hX.K]; kernel_rfl
theorem en156 {X : Wd} (hX : Good X) {v0 : W} {l : Hl} {K : W -> Hl -> Prop} (h : ∀ κ, ru X κ (RQ K) c156 [] (.s v0 (.o (.o (.o (.o .nil))))) (.nil) l) : WC2 X 156 [v0] l K :=
 WD2.wc <| wd_run0 (gd hX) (fa156 hX) (by rw [hX.K]; exact bind1 fun _ => by kernel_rfl) rfl (by kernel_rfl) (by kernel_rfl) h
theorem fa173 {X : Wd} (hX : Good X) : fact X.K 173 = (true, c173, [S "self", S "number", S "name", S "size", S "params", S "chars", S "program", S "kerns", S "boundary"], [S "self", S "number", S "name", S "size", S "params", S "chars", S "program", S "kerns", S "boundary"], []) := by rw [hX.K]; kernel_rfl
theorem fa180 {X : Wd} (hX : Good X) : fact X.K 180 = (true, c180, [S "self", S "code"], [S "self", S "code"], []) := by rw [hX.K]; kernel_rfl
theorem en180 {X : Wd} (hX : Good X) {v0 v1 : W} {l : Hl} {K : W -> Hl -> Prop} (h : ∀ κ, ru X κ (RQ K) c180 [] (.s v0 (.s v1 .nil)) (.nil) l) : WC2 X 180 [v0, v1] l K :=
 WD2.wc <| wd_run0 (gd hX) (fa180 hX) (by rw [hX.K]; exact bind2 fun _ _ => by kernel_rfl) rfl (by kernel_rfl) (by kernel_rfl) h
theorem fa187 {X : Wd} (hX : Good X) : fact X.K 187 = (true, c187, [S "self", S "code"], [S "self", S "code"], []) := by rw [hX.K]; kernel_rfl
theorem en187 {X : Wd} (hX : Good X) {v0 v1 : W} {l : Hl} {K : W -> Hl -> Prop} (h : ∀ κ, ru X κ (RQ K) c187 [] (.s v0 (.s v1 .nil)) (.nil) l) : WC2 X 187 [v0, v1] l K :=
 WD2.wc <| wd_run0 (gd hX) (fa187 hX) (by rw [hX.K]; exact bind2 fun _ _ => by kernel_rfl) rfl (by kernel_rfl) (by kernel_rfl) h
theorem fa257 {X : Wd} (hX : Good X) : fact X.K 257 = (true, c257, [S "number"], [S "number", S "left", S "found"], []) := by rw [hX.K]; kernel_rfl
theorem en257 {X : Wd} (hX : Good X) {v0 : W} {l : Hl} {K : W -> Hl -> Prop} (h : ∀ κ, ru X κ (RQ K) c257 [] (.s v0 (.o (.o .nil))) (.nil) l) : WC2 X 257 [v0] l K :=
 WD2.wc <| wd_run0 (gd hX) (fa257 hX) (by rw [hX.K]; exact bind1 fun _ => by kernel_rfl) rfl (by kernel_rfl) (by kernel_rfl) h
theorem fa267 {X : Wd} (hX : Good X) : fact X.K 267 = (true, c267, [S "number", S "rows", S "params", S "program", S "kerns", S "boundary"], [S "number", S "rows", S "params", S "program", S "kerns", S "boundary", S "chars", S "row"], []) := by rw [hX.K]; kernel_rfl
theorem fa285 {X : Wd} (hX : Good X) : fact X.K 285 = (true, c285, [S "self", S "octets"], [S "self", S "octets"], []) := by rw [hX.K]; kernel_rfl
theorem en285 {X : Wd} (hX : Good X) {v0 v1 : W} {l : Hl} {K : W -> Hl -> Prop} (h : ∀ κ, ru X κ (RQ K) c285 [] (.s v0 (.s v1 .nil)) (.nil) l) : WD2 X 285 [v0, v1] l K :=
 wd_run0 (gd hX) (fa285 hX) (by rw [hX.K]; exact bind2 fun _ _ => by kernel_rfl) rfl (by kernel_rfl) (by kernel_rfl) h
theorem fa292 {X : Wd} (hX : Good X) : fact X.K 292 = (true, c292, [S "self", S "room"], [S "self", S "room", S "end", S "found", S "place"], []) := by rw [hX.K]; kernel_rfl
theorem en292 {X : Wd} (hX : Good X) {v0 v1 : W} {l : Hl} {K : W -> Hl -> Prop} (h : ∀ κ, ru X κ (RQ K) c292 [] (.s v0 (.s v1 (.o (.o (.o .nil))))) (.nil) l) : WC2 X 292 [v0, v1] l K :=
 WD2.wc <| wd_run0 (gd hX) (fa292 hX) (by rw [hX.K]; exact bind2 fun _ _ => by kernel_rfl) rfl (by kernel_rfl) (by kernel_rfl) h
theorem fa299 {X : Wd} (hX : Good X) : fact X.K 299 = (true, c299, [S "self", S "room"], [S "self", S "room", S "found", S "half"], []) := by rw [hX.K]; kernel_rfl
theorem en299 {X : Wd} (hX : Good X) {v0 v1 : W} {l : Hl} {K : W -> Hl -> Prop} (h : ∀ κ, ru X κ (RQ K) c299 [] (.s v0 (.s v1 (.o (.o .nil)))) (.nil) l) : WC2 X 299 [v0, v1] l K :=
 WD2.wc <| wd_run0 (gd hX) (fa299 hX) (by rw [hX.K]; exact bind2 fun _ _ => by kernel_rfl) rfl (by kernel_rfl) (by kernel_rfl) h
theorem fa306 {X : Wd} (hX : Good X) : fact X.K 306 = (true, c306, [S "self", S "many"], [S "self", S "many", S "end", S "found"], []) := by rw [hX.K]; kernel_rfl
theorem en306 {X : Wd} (hX : Good X) {v0 v1 : W} {l : Hl} {K : W -> Hl -> Prop} (h : ∀ κ, ru X κ (RQ K) c306 [] (.s v0 (.s v1 (.o (.o .nil)))) (.nil) l) : WC2 X 306 [v0, v1] l K :=
 WD2.wc <| wd_run0 (gd hX) (fa306 hX) (by rw [hX.K]; exact bind2 fun _ _ => by kernel_rfl) rfl (by kernel_rfl) (by kernel_rfl) h
theorem fa327 {X : Wd} (hX : Good X) : fact X.K 327 = (true, c327, [S "self"], [S "self"], []) := by rw [hX.K]; kernel_rfl
theorem en327 {X : Wd} (hX : Good X) {v0 : W} {l : Hl} {K : W -> Hl -> Prop} (h : ∀ κ, ru X κ (RQ K) c327 [] (.s v0 .nil) (.nil) l) : WD2 X 327 [v0] l K :=
 wd_run0 (gd hX) (fa327 hX) (by rw [hX.K]; exact bind1 fun _ => by kernel_rfl) rfl (by kernel_rfl) (by kernel_rfl) h
theorem fa334 {X : Wd} (hX : Good X) : fact X.K 334 = (true, c334, [S "self"], [S "self"], []) := by rw [hX.K]; kernel_rfl
theorem en334 {X : Wd} (hX : Good X) {v0 : W} {l : Hl} {K : W -> Hl -> Prop} (h : ∀ κ, ru X κ (RQ K) c334 [] (.s v0 .nil) (.nil) l) : WC2 X 334 [v0] l K :=
 WD2.wc <| wd_run0 (gd hX) (fa334 hX) (by rw [hX.K]; exact bind1 fun _ => by kernel_rfl) rfl (by kernel_rfl) (by kernel_rfl) h
theorem fa341 {X : Wd} (hX : Good X) : fact X.K 341 = (true, c341, [S "self"], [S "self"], []) := by rw [hX.K]; kernel_rfl
theorem en341 {X : Wd} (hX : Good X) {v0 : W} {l : Hl} {K : W -> Hl -> Prop} (h : ∀ κ, ru X κ (RQ K) c341 [] (.s v0 .nil) (.nil) l) : WC2 X 341 [v0] l K :=
 WD2.wc <| wd_run0 (gd hX) (fa341 hX) (by rw [hX.K]; exact bind1 fun _ => by kernel_rfl) rfl (by kernel_rfl) (by kernel_rfl) h
theorem fa348 {X : Wd} (hX : Good X) : fact X.K 348 = (true, c348, [S "self", S "across", S "down"], [S "self", S "across", S "down", S "h", S "v"], []) := by rw [hX.K]; kernel_rfl
theorem en348 {X : Wd} (hX : Good X) {v0 v1 v2 : W} {l : Hl} {K : W -> Hl -> Prop} (h : ∀ κ, ru X κ (RQ K) c348 [] (.s v0 (.s v1 (.s v2 (.o (.o .nil))))) (.nil) l) : WC2 X 348 [v0, v1, v2] l K :=
 WD2.wc <| wd_run0 (gd hX) (fa348 hX) (by rw [hX.K]; exact bind3 fun _ _ _ => by kernel_rfl) rfl (by kernel_rfl) (by kernel_rfl) h
theorem fa369 {X : Wd} (hX : Good X) : fact X.K 369 = (true, c369, [S "self", S "units", S "comment"], [S "self", S "units", S "comment"], []) := by rw [hX.K]; kernel_rfl
theorem en369 {X : Wd} (hX : Good X) {v0 v1 v2 : W} {l : Hl} {K : W -> Hl -> Prop} (h : ∀ κ, ru X κ (RQ K) c369 [] (.s v0 (.s v1 (.s v2 .nil))) (.nil) l) : WD2 X 369 [v0, v1, v2] l K :=
 wd_run0 (gd hX) (fa369 hX) (by rw [hX.K]; exact bind3 fun _ _ _ => by kernel_rfl) rfl (by kernel_rfl) (by kernel_rfl) h
theorem fa383 {X : Wd} (hX : Good X) : fact X.K 383 = (true, c383, [S "stream"], [S "stream", S "found"], []) := by rw [hX.K]; kernel_rfl
theorem en383 {X : Wd} (hX : Good X) {v0 : W} {l : Hl} {K : W -> Hl -> Prop} (h : ∀ κ, ru X κ (RQ K) c383 [] (.s v0 (.o .nil)) (.nil) l) : WC2 X 383 [v0] l K :=
 WD2.wc <| wd_run0 (gd hX) (fa383 hX) (by rw [hX.K]; exact bind1 fun _ => by kernel_rfl) rfl (by kernel_rfl) (by kernel_rfl) h
theorem fa388 {X : Wd} (hX : Good X) : fact X.K 388 = (true, c388, [S "stream", S "opcode", S "fonts"], [S "stream", S "opcode", S "fonts", S "number", S "check", S "size", S "design", S "area", S "length", S "name", S "font"], []) := by rw [hX.K]; kernel_rfl
theorem en388 {X : Wd} (hX : Good X) {v0 v1 v2 : W} {l : Hl} {K : W -> Hl -> Prop} (h : ∀ κ, ru X κ (RQ K) c388 [] (.s v0 (.s v1 (.s v2 (.o (.o (.o (.o (.o (.o (.o (.o .nil))))))))))) (.nil) l) : WC2 X 388 [v0, v1, v2] l K :=
 WD2.wc <| wd_run0 (gd hX) (fa388 hX) (by rw [hX.K]; exact bind3 fun _ _ _ => by kernel_rfl) rfl (by kernel_rfl) (by kernel_rfl) h
theorem fa395 {X : Wd} (hX : Good X) : fact X.K 395 = (true, c395, [S "opcode"], [S "opcode"], []) := by rw [hX.K]; kernel_rfl
theorem en395 {X : Wd} (hX : Good X) {v0 : W} {l : Hl} {K : W -> Hl -> Prop} (h : ∀ κ, ru X κ (RQ K) c395 [] (.s v0 .nil) (.nil) l) : WC2 X 395 [v0] l K :=
 WD2.wc <| wd_run0 (gd hX) (fa395 hX) (by rw [hX.K]; exact bind1 fun _ => by kernel_rfl) rfl (by kernel_rfl) (by kernel_rfl) h
theorem fa402 {X : Wd} (hX : Good X) : fact X.K 402 = (true, c402, [S "stream", S "which", S "first", S "second"], [S "stream", S "which", S "first", S "second"], []) := by rw [hX.K]; kernel_rfl
theorem en402 {X : Wd} (hX : Good X) {v0 v1 v2 v3 : W} {l : Hl} {K : W -> Hl -> Prop} (h : ∀ κ, ru X κ (RQ K) c402 [] (.s v0 (.s v1 (.s v2 (.s v3 .nil)))) (.nil) l) : WC2 X 402 [v0, v1, v2, v3] l K :=
 WD2.wc <| wd_run0 (gd hX) (fa402 hX) (by rw [hX.K]; exact bind4 fun _ _ _ _ => by kernel_rfl) rfl (by kernel_rfl) (by kernel_rfl) h
theorem fa409 {X : Wd} (hX : Good X) : fact X.K 409 = (true, c409, [S "state", S "code", S "fonts", S "moves"], [S "state", S "code", S "fonts", S "moves", S "font"], []) := by rw [hX.K]; kernel_rfl
theorem en409 {X : Wd} (hX : Good X) {v0 v1 v2 v3 : W} {l : Hl} {K : W -> Hl -> Prop} (h : ∀ κ, ru X κ (RQ K) c409 [] (.s v0 (.s v1 (.s v2 (.s v3 (.o .nil))))) (.nil) l) : WC2 X 409 [v0, v1, v2, v3] l K :=
 WD2.wc <| wd_run0 (gd hX) (fa409 hX) (by rw [hX.K]; exact bind4 fun _ _ _ _ => by kernel_rfl) rfl (by kernel_rfl) (by kernel_rfl) h
theorem fa416 {X : Wd} (hX : Good X) : fact X.K 416 = (true, c416, [S "stream", S "state", S "moves"], [S "stream", S "state", S "moves", S "height", S "width"], []) := by rw [hX.K]; kernel_rfl
theorem en416 {X : Wd} (hX : Good X) {v0 v1 v2 : W} {l : Hl} {K : W -> Hl -> Prop} (h : ∀ κ, ru X κ (RQ K) c416 [] (.s v0 (.s v1 (.s v2 (.o (.o .nil))))) (.nil) l) : WC2 X 416 [v0, v1, v2] l K :=
 WD2.wc <| wd_run0 (gd hX) (fa416 hX) (by rw [hX.K]; exact bind3 fun _ _ _ => by kernel_rfl) rfl (by kernel_rfl) (by kernel_rfl) h
theorem fa423 {X : Wd} (hX : Good X) : fact X.K 423 = (true, c423, [S "state", S "number", S "known"], [S "state", S "number", S "known"], []) := by rw [hX.K]; kernel_rfl
theorem en423 {X : Wd} (hX : Good X) {v0 v1 v2 : W} {l : Hl} {K : W -> Hl -> Prop} (h : ∀ κ, ru X κ (RQ K) c423 [] (.s v0 (.s v1 (.s v2 .nil))) (.nil) l) : WC2 X 423 [v0, v1, v2] l K :=
 WD2.wc <| wd_run0 (gd hX) (fa423 hX) (by rw [hX.K]; exact bind3 fun _ _ _ => by kernel_rfl) rfl (by kernel_rfl) (by kernel_rfl) h
theorem fa430 {X : Wd} (hX : Good X) : fact X.K 430 = (true, c430, [S "stream", S "opcode", S "known", S "fonts"], [S "stream", S "opcode", S "known", S "fonts", S "number", S "row"], []) := by rw [hX.K]; kernel_rfl
theorem en430 {X : Wd} (hX : Good X) {v0 v1 v2 v3 : W} {l : Hl} {K : W -> Hl -> Prop} (h : ∀ κ, ru X κ (RQ K) c430 [] (.s v0 (.s v1 (.s v2 (.s v3 (.o (.o .nil)))))) (.nil) l) : WC2 X 430 [v0, v1, v2, v3] l K :=
 WD2.wc <| wd_run0 (gd hX) (fa430 hX) (by rw [hX.K]; exact bind4 fun _ _ _ _ => by kernel_rfl) rfl (by kernel_rfl) (by kernel_rfl) h
theorem fa437 {X : Wd} (hX : Good X) : fact X.K 437 = (true, c437, [S "stream", S "state", S "opcode", S "known", S "fonts"], [S "stream", S "state", S "opcode", S "known", S "fonts", S "size", S "many"], []) := by rw [hX.K]; kernel_rfl
theorem en437 {X : Wd} (hX : Good X) {v0 v1 v2 v3 v4 : W} {l : Hl} {K : W -> Hl -> Prop} (h : ∀ κ, ru X κ (RQ K) c437 [] (.s v0 (.s v1 (.s v2 (.s v3 (.s v4 (.o (.o .nil))))))) (.nil) l) : WC2 X 437 [v0, v1, v2, v3, v4] l K :=
 WD2.wc <| wd_run0 (gd hX) (fa437 hX) (by rw [hX.K]; exact bind5 fun _ _ _ _ _ => by kernel_rfl) rfl (by kernel_rfl) (by kernel_rfl) h
theorem fa442 {X : Wd} (hX : Good X) : fact X.K 442 = (true, c442, [S "stream", S "last", S "known", S "fonts"], [S "last", S "known", S "fonts", S "counts", S "state", S "opcode"], [S "stream"]) := by rw [hX.K]; kernel_rfl
theorem en442 {X : Wd} (hX : Good X) {v0 v1 v2 v3 : W} {l : Hl} {K : W -> Hl -> Prop} (h : ∀ κ, ru X κ (RQ K) c442 [] (.s v1 (.s v2 (.s v3 (.o (.o (.o .nil)))))) (.s v0 .nil) l) : WC2 X 442 [v0, v1, v2, v3] l K :=
 WD2.wc <| wd_run0 (gd hX) (fa442 hX) (by rw [hX.K]; exact bind4 fun _ _ _ _ => by kernel_rfl) rfl (by kernel_rfl) (by kernel_rfl) h
theorem fa449 {X : Wd} (hX : Good X) : fact X.K 449 = (true, c449, [S "stream", S "known", S "fonts"], [S "stream", S "known", S "fonts", S "told", S "opcode", S "number", S "row"], []) := by rw [hX.K]; kernel_rfl
theorem en449 {X : Wd} (hX : Good X) {v0 v1 v2 : W} {l : Hl} {K : W -> Hl -> Prop} (h : ∀ κ, ru X κ (RQ K) c449 [] (.s v0 (.s v1 (.s v2 (.o (.o (.o (.o .nil))))))) (.nil) l) : WC2 X 449 [v0, v1, v2] l K :=
 WD2.wc <| wd_run0 (gd hX) (fa449 hX) (by rw [hX.K]; exact bind3 fun _ _ _ => by kernel_rfl) rfl (by kernel_rfl) (by kernel_rfl) h
theorem fa454 {X : Wd} (hX : Good X) : fact X.K 454 = (true, c454, [S "stream", S "device", S "last", S "fonts"], [S "stream", S "device", S "last", S "fonts", S "begin", S "rest"], []) := by rw [hX.K]; kernel_rfl
theorem en454 {X : Wd} (hX : Good X) {v0 v1 v2 v3 : W} {l : Hl} {K : W -> Hl -> Prop} (h : ∀ κ, ru X κ (RQ K) c454 [] (.s v0 (.s v1 (.s v2 (.s v3 (.o (.o .nil)))))) (.nil) l) : WC2 X 454 [v0, v1, v2, v3] l K :=
 WD2.wc <| wd_run0 (gd hX) (fa454 hX) (by rw [hX.K]; exact bind4 fun _ _ _ _ => by kernel_rfl) rfl (by kernel_rfl) (by kernel_rfl) h
theorem fa461 {X : Wd} (hX : Good X) : fact X.K 461 = (true, c461, [S "octets", S "fonts"], [S "octets", S "fonts", S "stream", S "units", S "many", S "device", S "last", S "opcode", S "begin", S "counts", S "state"], []) := by rw [hX.K]; kernel_rfl
theorem en461 {X : Wd} (hX : Good X) {v0 v1 : W} {l : Hl} {K : W -> Hl -> Prop} (h : ∀ κ, ru X κ (RQ K) c461 [] (.s v0 (.s v1 (.o (.o (.o (.o (.o (.o (.o (.o (.o .nil))))))))))) (.nil) l) : WC2 X 461 [v0, v1] l K :=
 WD2.wc <| wd_run0 (gd hX) (fa461 hX) (by rw [hX.K]; exact bind2 fun _ _ => by kernel_rfl) rfl (by kernel_rfl) (by kernel_rfl) h
theorem fa466 {X : Wd} (hX : Good X) : fact X.K 466 = (true, c466, [S "script", S "k"], [S "script", S "k", S "cell"], []) := by rw [hX.K]; kernel_rfl
theorem en466 {X : Wd} (hX : Good X) {v0 v1 : W} {l : Hl} {K : W -> Hl -> Prop} (h : ∀ κ, ru X κ (RQ K) c466 [] (.s v0 (.s v1 (.o .nil))) (.nil) l) : WC2 X 466 [v0, v1] l K :=
 WD2.wc <| wd_run0 (gd hX) (fa466 hX) (by rw [hX.K]; exact bind2 fun _ _ => by kernel_rfl) rfl (by kernel_rfl) (by kernel_rfl) h
theorem fa473 {X : Wd} (hX : Good X) : fact X.K 473 = (true, c473, [S "source", S "many"], [S "source", S "many", S "digit", S "mixed"], []) := by rw [hX.K]; kernel_rfl
theorem en473 {X : Wd} (hX : Good X) {v0 v1 : W} {l : Hl} {K : W -> Hl -> Prop} (h : ∀ κ, ru X κ (RQ K) c473 [] (.s v0 (.s v1 (.o (.o .nil)))) (.nil) l) : WC2 X 473 [v0, v1] l K :=
 WD2.wc <| wd_run0 (gd hX) (fa473 hX) (by rw [hX.K]; exact bind2 fun _ _ => by kernel_rfl) rfl (by kernel_rfl) (by kernel_rfl) h
theorem fa480 {X : Wd} (hX : Good X) : fact X.K 480 = (true, c480, [S "which"], [S "which"], []) := by rw [hX.K]; kernel_rfl
theorem en480 {X : Wd} (hX : Good X) {v0 : W} {l : Hl} {K : W -> Hl -> Prop} (h : ∀ κ, ru X κ (RQ K) c480 [] (.s v0 .nil) (.nil) l) : WC2 X 480 [v0] l K :=
 WD2.wc <| wd_run0 (gd hX) (fa480 hX) (by rw [hX.K]; exact bind1 fun _ => by kernel_rfl) rfl (by kernel_rfl) (by kernel_rfl) h
theorem fa485 {X : Wd} (hX : Good X) : fact X.K 485 = (true, c485, [S "value", S "room"], [S "room"], [S "value"]) := by rw [hX.K]; kernel_rfl
theorem en485 {X : Wd} (hX : Good X) {v0 v1 : W} {l : Hl} {K : W -> Hl -> Prop} (h : ∀ κ, ru X κ (RQ K) c485 [] (.s v1 .nil) (.s v0 .nil) l) : WC2 X 485 [v0, v1] l K :=
 WD2.wc <| wd_run0 (gd hX) (fa485 hX) (by rw [hX.K]; exact bind2 fun _ _ => by kernel_rfl) rfl (by kernel_rfl) (by kernel_rfl) h
theorem fa492 {X : Wd} (hX : Good X) : fact X.K 492 = (true, c492, [S "source"], [S "source", S "way", S "count"], []) := by rw [hX.K]; kernel_rfl
theorem en492 {X : Wd} (hX : Good X) {v0 : W} {l : Hl} {K : W -> Hl -> Prop} (h : ∀ κ, ru X κ (RQ K) c492 [] (.s v0 (.o (.o .nil))) (.nil) l) : WC2 X 492 [v0] l K :=
 WD2.wc <| wd_run0 (gd hX) (fa492 hX) (by rw [hX.K]; exact bind1 fun _ => by kernel_rfl) rfl (by kernel_rfl) (by kernel_rfl) h
theorem fa499 {X : Wd} (hX : Good X) : fact X.K 499 = (true, c499, [S "first", S "size", S "more"], [S "first", S "size", S "more", S "room"], []) := by rw [hX.K]; kernel_rfl
theorem en499 {X : Wd} (hX : Good X) {v0 v1 v2 : W} {l : Hl} {K : W -> Hl -> Prop} (h : ∀ κ, ru X κ (RQ K) c499 [] (.s v0 (.s v1 (.s v2 (.o .nil)))) (.nil) l) : WC2 X 499 [v0, v1, v2] l K :=
 WD2.wc <| wd_run0 (gd hX) (fa499 hX) (by rw [hX.K]; exact bind3 fun _ _ _ => by kernel_rfl) rfl (by kernel_rfl) (by kernel_rfl) h
theorem fa506 {X : Wd} (hX : Good X) : fact X.K 506 = (true, c506, [S "page", S "octets"], [S "page", S "octets"], []) := by rw [hX.K]; kernel_rfl
theorem en506 {X : Wd} (hX : Good X) {v0 v1 : W} {l : Hl} {K : W -> Hl -> Prop} (h : ∀ κ, ru X κ (RQ K) c506 [] (.s v0 (.s v1 .nil)) (.nil) l) : WC2 X 506 [v0, v1] l K :=
 WD2.wc <| wd_run0 (gd hX) (fa506 hX) (by rw [hX.K]; exact bind2 fun _ _ => by kernel_rfl) rfl (by kernel_rfl) (by kernel_rfl) h
theorem fa513 {X : Wd} (hX : Good X) : fact X.K 513 = (true, c513, [S "source", S "page"], [S "source", S "page", S "way", S "one", S "two"], []) := by rw [hX.K]; kernel_rfl
theorem en513 {X : Wd} (hX : Good X) {v0 v1 : W} {l : Hl} {K : W -> Hl -> Prop} (h : ∀ κ, ru X κ (RQ K) c513 [] (.s v0 (.s v1 (.o (.o (.o .nil))))) (.nil) l) : WC2 X 513 [v0, v1] l K :=
 WD2.wc <| wd_run0 (gd hX) (fa513 hX) (by rw [hX.K]; exact bind2 fun _ _ => by kernel_rfl) rfl (by kernel_rfl) (by kernel_rfl) h
theorem fa520 {X : Wd} (hX : Good X) : fact X.K 520 = (true, c520, [S "source", S "page"], [S "source", S "page", S "code", S "way", S "moves", S "room", S "width"], []) := by rw [hX.K]; kernel_rfl
theorem en520 {X : Wd} (hX : Good X) {v0 v1 : W} {l : Hl} {K : W -> Hl -> Prop} (h : ∀ κ, ru X κ (RQ K) c520 [] (.s v0 (.s v1 (.o (.o (.o (.o (.o .nil))))))) (.nil) l) : WC2 X 520 [v0, v1] l K :=
 WD2.wc <| wd_run0 (gd hX) (fa520 hX) (by rw [hX.K]; exact bind2 fun _ _ => by kernel_rfl) rfl (by kernel_rfl) (by kernel_rfl) h
theorem fa527 {X : Wd} (hX : Good X) : fact X.K 527 = (true, c527, [S "source", S "page"], [S "source", S "page", S "height", S "width", S "moves", S "sizes"], []) := by rw [hX.K]; kernel_rfl
theorem en527 {X : Wd} (hX : Good X) {v0 v1 : W} {l : Hl} {K : W -> Hl -> Prop} (h : ∀ κ, ru X κ (RQ K) c527 [] (.s v0 (.s v1 (.o (.o (.o (.o .nil)))))) (.nil) l) : WC2 X 527 [v0, v1] l K :=
 WD2.wc <| wd_run0 (gd hX) (fa527 hX) (by rw [hX.K]; exact bind2 fun _ _ => by kernel_rfl) rfl (by kernel_rfl) (by kernel_rfl) h
theorem fa534 {X : Wd} (hX : Good X) : fact X.K 534 = (true, c534, [S "source", S "page"], [S "source", S "page", S "axis", S "way", S "more", S "spot", S "first", S "size"], []) := by rw [hX.K]; kernel_rfl
theorem en534 {X : Wd} (hX : Good X) {v0 v1 : W} {l : Hl} {K : W -> Hl -> Prop} (h : ∀ κ, ru X κ (RQ K) c534 [] (.s v0 (.s v1 (.o (.o (.o (.o (.o (.o .nil)))))))) (.nil) l) : WC2 X 534 [v0, v1] l K :=
 WD2.wc <| wd_run0 (gd hX) (fa534 hX) (by rw [hX.K]; exact bind2 fun _ _ => by kernel_rfl) rfl (by kernel_rfl) (by kernel_rfl) h
theorem fa541 {X : Wd} (hX : Good X) : fact X.K 541 = (true, c541, [S "which", S "room", S "rest"], [S "which", S "room", S "rest"], []) := by rw [hX.K]; kernel_rfl
theorem en541 {X : Wd} (hX : Good X) {v0 v1 v2 : W} {l : Hl} {K : W -> Hl -> Prop} (h : ∀ κ, ru X κ (RQ K) c541 [] (.s v0 (.s v1 (.s v2 .nil))) (.nil) l) : WC2 X 541 [v0, v1, v2] l K :=
 WD2.wc <| wd_run0 (gd hX) (fa541 hX) (by rw [hX.K]; exact bind3 fun _ _ _ => by kernel_rfl) rfl (by kernel_rfl) (by kernel_rfl) h
theorem fa546 {X : Wd} (hX : Good X) : fact X.K 546 = (true, c546, [S "source", S "page", S "told", S "fonts"], [S "source", S "page", S "told", S "fonts", S "which", S "room", S "ahead", S "font", S "check", S "design", S "area", S "text", S "rest", S "place"], []) := by rw [hX.K]; kernel_rfl
theorem en546 {X : Wd} (hX : Good X) {v0 v1 v2 v3 : W} {l : Hl} {K : W -> Hl -> Prop} (h : ∀ κ, ru X κ (RQ K) c546 [] (.s v0 (.s v1 (.s v2 (.s v3 (.o (.o (.o (.o (.o (.o (.o (.o (.o (.o .nil)))))))))))))) (.nil) l) : WC2 X 546 [v0, v1, v2, v3] l K :=
 WD2.wc <| wd_run0 (gd hX) (fa546 hX) (by rw [hX.K]; exact bind4 fun _ _ _ _ => by kernel_rfl) rfl (by kernel_rfl) (by kernel_rfl) h
theorem fa551 {X : Wd} (hX : Good X) : fact X.K 551 = (true, c551, [S "source", S "page"], [S "page", S "octets", S "room"], [S "source"]) := by rw [hX.K]; kernel_rfl
theorem en551 {X : Wd} (hX : Good X) {v0 v1 : W} {l : Hl} {K : W -> Hl -> Prop} (h : ∀ κ, ru X κ (RQ K) c551 [] (.s v1 (.o (.o .nil))) (.s v0 .nil) l) : WC2 X 551 [v0, v1] l K :=
 WD2.wc <| wd_run0 (gd hX) (fa551 hX) (by rw [hX.K]; exact bind2 fun _ _ => by kernel_rfl) rfl (by kernel_rfl) (by kernel_rfl) h
theorem fa558 {X : Wd} (hX : Good X) : fact X.K 558 = (true, c558, [S "source", S "page", S "told", S "fonts"], [S "source", S "page", S "told", S "fonts", S "way"], []) := by rw [hX.K]; kernel_rfl
theorem en558 {X : Wd} (hX : Good X) {v0 v1 v2 v3 : W} {l : Hl} {K : W -> Hl -> Prop} (h : ∀ κ, ru X κ (RQ K) c558 [] (.s v0 (.s v1 (.s v2 (.s v3 (.o .nil))))) (.nil) l) : WC2 X 558 [v0, v1, v2, v3] l K :=
 WD2.wc <| wd_run0 (gd hX) (fa558 hX) (by rw [hX.K]; exact bind4 fun _ _ _ _ => by kernel_rfl) rfl (by kernel_rfl) (by kernel_rfl) h
theorem fa563 {X : Wd} (hX : Good X) : fact X.K 563 = (true, c563, [S "source", S "told", S "fonts"], [S "source", S "told", S "fonts", S "page", S "lap", S "k"], [S "first"]) := by rw [hX.K]; kernel_rfl
theorem en563 {X : Wd} (hX : Good X) {v0 v1 v2 : W} {l : Hl} {K : W -> Hl -> Prop} (h : ∀ κ, ru X κ (RQ K) c563 [] (.s v0 (.s v1 (.s v2 (.o (.o (.o .nil)))))) (.o .nil) l) : WC2 X 563 [v0, v1, v2] l K :=
 WD2.wc <| wd_run0 (gd hX) (fa563 hX) (by rw [hX.K]; exact bind3 fun _ _ _ => by kernel_rfl) rfl (by kernel_rfl) (by kernel_rfl) h
theorem fa570 {X : Wd} (hX : Good X) : fact X.K 570 = (true, c570, [S "plain", S "pages", S "k", S "front", S "idle", S "definitions", S "stack", S "filling"], [S "plain", S "pages", S "k", S "front", S "idle", S "definitions", S "stack", S "filling", S "found", S "last", S "page", S "begin", S "counts", S "amount", S "post"], []) := by rw [hX.K]; kernel_rfl
theorem en570 {X : Wd} (hX : Good X) {v0 v1 v2 v3 v4 v5 v6 v7 : W} {l : Hl} {K : W -> Hl -> Prop} (h : ∀ κ, ru X κ (RQ K) c570 [] (.s v0 (.s v1 (.s v2 (.s v3 (.s v4 (.s v5 (.s v6 (.s v7 (.o (.o (.o (.o (.o (.o (.o .nil))))))))))))))) (.nil) l) : WC2 X 570 [v0, v1, v2, v3, v4, v5, v6, v7] l K :=
 WD2.wc <| wd_run0 (gd hX) (fa570 hX) (by rw [hX.K]; exact bind8 fun _ _ _ _ _ _ _ _ => by kernel_rfl) rfl (by kernel_rfl) (by kernel_rfl) h
theorem fa577 {X : Wd} (hX : Good X) : fact X.K 577 = (true, c577, [S "octets", S "fonts"], [S "octets", S "fonts", S "device"], []) := by rw [hX.K]; kernel_rfl
theorem en577 {X : Wd} (hX : Good X) {v0 v1 : W} {l : Hl} {K : W -> Hl -> Prop} (h : ∀ κ, ru X κ (RQ K) c577 [] (.s v0 (.s v1 (.o .nil))) (.nil) l) : WC2 X 577 [v0, v1] l K :=
 WD2.wc <| wd_run0 (gd hX) (fa577 hX) (by rw [hX.K]; exact bind2 fun _ _ => by kernel_rfl) rfl (by kernel_rfl) (by kernel_rfl) h
theorem fa582 {X : Wd} (hX : Good X) : fact X.K 582 = (true, c582, [S "script"], [S "script", S "fonts", S "pages", S "which", S "scale", S "comment", S "tallest", S "widest", S "k", S "plain", S "terse", S "wordy", S "deep", S "deeper", S "one", S "other", S "defined", S "shown"], [S "source", S "told", S "by_code"]) := by rw [hX.K]; kernel_rfl
theorem en582 {X : Wd} (hX : Good X) {v0 : W} {l : Hl} {K : W -> Hl -> Prop} (h : ∀ κ, ru X κ (RQ K) c582 [] (.s v0 (.o (.o (.o (.o (.o (.o (.o (.o (.o (.o (.o (.o (.o (.o (.o (.o (.o .nil)))))))))))))))))) (.o (.o (.o .nil))) l) : WD2 X 582 [v0] l K :=
 wd_run0 (gd hX) (fa582 hX) (by rw [hX.K]; exact bind1 fun _ => by kernel_rfl) rfl (by kernel_rfl) (by kernel_rfl) h
theorem mk246 {X : Wd} (hX : Good X) : makesIn X.K 246 = true /\ findIn X.K (.ref 246) "__init__" = some (some (.ref 173)) /\ typeIn X.K (.ref 173) = some (.type "function") /\ keepIn X.K (.ref 246) = true := by rw [hX.K]; exact ⟨by kernel_rfl, by kernel_rfl, by kernel_rfl, by kernel_rfl⟩
theorem mk309 {X : Wd} (hX : Good X) : makesIn X.K 309 = true /\ findIn X.K (.ref 309) "__init__" = some (some (.ref 285)) /\ typeIn X.K (.ref 285) = some (.type "function") /\ keepIn X.K (.ref 309) = true := by rw [hX.K]; exact ⟨by kernel_rfl, by kernel_rfl, by kernel_rfl, by kernel_rfl⟩
theorem mk351 {X : Wd} (hX : Good X) : makesIn X.K 351 = true /\ findIn X.K (.ref 351) "__init__" = some (some (.ref 327)) /\ typeIn X.K (.ref 327) = some (.type "function") /\ keepIn X.K (.ref 351) = true := by rw [hX.K]; exact ⟨by kernel_rfl, by kernel_rfl, by kernel_rfl, by kernel_rfl⟩
theorem mk372 {X : Wd} (hX : Good X) : makesIn X.K 372 = true /\ findIn X.K (.ref 372) "__init__" = some (some (.ref 369)) /\ typeIn X.K (.ref 369) = some (.type "function") /\ keepIn X.K (.ref 372) = true := by rw [hX.K]; exact ⟨by kernel_rfl, by kernel_rfl, by kernel_rfl, by kernel_rfl⟩
end
section
theorem bd {a n m : Nat} (h : a <= m) (k : m <= n) : a <= n := Nat.le_trans h k
theorem bnA {α} {a b : List α} {m n : Nat} (h : a.length <= m) (k : b.length <= n) : (a ++ b).length <= m + n := by rw [List.length_append]; exact Nat.add_le_add h k
theorem bnM {α β} {f : α -> β} {a : List α} {m : Nat} (h : a.length <= m) : (a.map f).length <= m := by rw [List.length_map]; exact h
theorem bnC {α} {x : α} {a : List α} {m : Nat} (h : a.length <= m) : (x :: a).length <= m + 1 := Nat.succ_le_succ h
theorem bn0 {α} : ([] : List α).length <= 0 := Nat.le_refl _
theorem ne_app {α} {a b : List α} {x : α} : a ++ x :: b ≠ [] := fun h => by induction a <;> cases h
section
variable {P R : Prop} {p : Prop} [Decidable p] {a b : Int}
theorem brT (h : p) (k : P) : Br (decide p) P R := ⟨fun O => k, fun z => absurd h (of_decide_eq_false z)⟩
theorem brF (h : ¬ p) (k : R) : Br (decide p) P R := ⟨fun z => absurd (of_decide_eq_true z) h, fun O => k⟩
theorem brNT (h : ¬ p) (k : P) : Br (!decide p) P R := ⟨fun O => k, fun z => absurd (ndf z) h⟩
theorem brNF (h : p) (k : R) : Br (!decide p) P R := ⟨fun z => absurd h (ndt z), fun O => k⟩
theorem brt (k : P) : Br true P R := ⟨fun O => k, fun z => by cases z⟩
theorem brf (k : R) : Br false P R := ⟨fun z => (by cases z), fun O => k⟩
theorem brD (h : p -> P) (k : ¬ p -> R) : Br (decide p) P R := ⟨fun z => h (of_decide_eq_true z), fun z => k (of_decide_eq_false z)⟩
theorem brN (h : ¬ p -> P) (k : p -> R) : Br (!decide p) P R := ⟨fun z => h (ndt z), fun z => k (ndf z)⟩
theorem brLE (h : a <= b -> P) (k : b < a -> R) : Br (decide (a <= b)) P R := brD h fun z => k (Int.not_le.mp z)
theorem sd {p q : Prop} (h : p) (k : q) : Sd p q := ⟨h, k⟩
end
theorem acc {l : Hl} {a : Addr} {K : Nat -> C2 -> Prop} (n : Nat) {x : C2} (h : l.at n = some (a, x)) (k : K n x) : Acc l a K := ⟨n, x, h, k⟩
theorem ixI {α} {x : List α} {i : Int} {K : α -> Prop} {v} (h0 : 0 <= i) (h1 : i < 2 ^ 63) (e : x[i.toNat]? = some v) (k : K v) : ix x i K := ⟨v, h0, h1, e, k⟩
theorem ixA {α} {x : List α} {i : Int} {K : α -> Prop} (h : 0 <= i /\ i < (x.length : Int)) (h1 : x.length <= 1000000) (k : ∀ v, v ∈ x -> K v) : ix x i K := by
 have hlt : i.toNat < x.length := by lia
 exact ⟨x[i.toNat], h.1, by lia, List.getElem?_eq_getElem hlt, k _ (List.getElem_mem hlt)⟩
theorem Hl.at_set {l : Hl} : ∀ {n a x y}, l.at n = some (a, x) -> (l.set n y).at n = some (a, y) := by
 induction l with
 | nil => exact fun e => none_no e
 | c b z r ih => exact fun {n a x y} => n.rec (fun e => congrArg (fun a => some (a, y)) (Prod.mk.inj (Option.some.inj e)).1) fun n O e => ih (n := n) e
theorem Hl.set_id {l : Hl} : ∀ {n a x}, l.at n = some (a, x) -> l.set n x = l := by
 induction l with
 | nil => exact fun e => none_no e
 | c b z r ih => exact fun {n a x} => n.rec (fun e => congrArg (fun z => Hl.c b z r) (Prod.mk.inj (Option.some.inj e)).2.symm) fun n O e => congrArg (Hl.c b z) (ih (n := n) e)
theorem Hl.set_set {l : Hl} : ∀ {n x y}, (l.set n x).set n y = l.set n y := by
 induction l with
 | nil => exact rfl
 | c b z r ih => exact fun {n x y} => n.rec rfl fun n O => congrArg (Hl.c b z) (ih (n := n))
theorem flats_ints : ∀ l : List Int, V.flats (l.map V.int) = true
 | [] => rfl
 | _ :: l => flats_ints l
theorem deps_ints (l : List Int) : V.deps (l.map V.int) = 0 := by
 induction l with
 | nil => exact rfl
 | cons i l ih => exact (Nat.zero_max _).trans ih
theorem ne_il {X : Wd} {l : Hl} {x y : List Int} (h : x = y) : EqP X false (.il x) (.il y) l false := fun n F H va vb Q ra rb rh q => by
 subst h
 obtain ⟨a, rfl, e⟩ := ra
 obtain ⟨b, rfl, f⟩ := rb
 exact cmp_neL (rh.fz _ _ e).1 (rh.fz _ _ f).1 (flats_ints x) (by rw [deps_ints]; decide) q
theorem ne_nil {X : Wd} {l : Hl} {a : Addr} {n : Nat} {ws : List W} {r : Bool} (e : l.at n = some (a, .list ws)) (hr : (!ws.isEmpty) = r) : EqP X false (.ref a) (.il []) l r := fun n F H va vb Q ra rb rh q => by
 obtain ⟨vs, e, r⟩ := rh.get e
 obtain ⟨b, rfl, f⟩ := rb
 rw [show va = _ from ra]
 refine cmp_neL0 e (rh.fz _ _ f).1 ?_
 rwa [show vs.isEmpty = ws.isEmpty by rw [Bool.eq_iff_iff, List.isEmpty_iff_length_eq_zero, List.isEmpty_iff_length_eq_zero, r.len], hr]
theorem ne_nil' {X : Wd} {l : Hl} {x : List Int} {r : Bool} (hr : (!x.isEmpty) = r) : EqP X false (.il x) (.il []) l r := fun n F H va vb Q ra rb rh q => by
 obtain ⟨a, rfl, e⟩ := ra
 obtain ⟨b, rfl, f⟩ := rb
 refine cmp_neL0 (rh.fz _ _ e).1 (rh.fz _ _ f).1 ?_
 rwa [show (x.map V.int).isEmpty = x.isEmpty by induction x <;> rfl, hr]
section
variable {w : W} {L C : LW} {l : Hl} {Q : Qt} {fin : LW -> LW -> Hl -> Prop}
theorem for_i {α} {its body} {ws : List α} {l1 : Hl} (I : List α -> LW -> LW -> Hl -> Prop) (i : its w l ws l1) (h0 : I ws L C l1) (he : ∀ L C l, I [] L C l -> fin L C l) (hs : ∀ v r L C l, I (v :: r) L C l -> body (FQ (I r) Q) v L C l) : ForP w its L C l Q fin body := ⟨ws, l1, I, i, h0, he, hs⟩
theorem whl_i {body} (I : Nat -> LW -> LW -> Hl -> Prop) (k : Nat) (h0 : I k L C l) (hs : ∀ k L C l, I k L C l -> body (WQ I fin Q k) L C l) : WhlP L C l Q fin body := ⟨k, I, h0, hs⟩
theorem lc_i {fin : List W -> Hl -> Prop} {body} {ws : List W} {l1 : Hl} (I : List W -> List W -> Hl -> Prop) (i : Its w l ws l1) (h0 : I ws [] l1) (he : ∀ d l, I [] d l -> fin d l) (hs : ∀ v r d l, I (v :: r) d l -> d.length <= 10000000 /\ body (CQ (I r) d) v l) : LcP w l fin body := ⟨ws, l1, I, i, h0, he, hs⟩
theorem lc_int {α} {K : W -> Hl -> Prop} {body} {xs : List α} (f : α -> W) (g : α -> Int) (i : Its w l (xs.map f) l) (hz : xs.length <= 10000000) (he : K (.il (xs.map g)) l) (hs : ∀ v (Q' : Qt), v ∈ xs -> (∀ L C, Q' (.ret (.int (g v))) L C l) -> body Q' (f v) l) : LcP w l (fun d l => Fro d l K) body := by
 refine lc_i (fun r d l' => l' = l /\ ∃ n, n <= xs.length /\ r = (xs.drop n).map f /\ d = ((xs.take n).map g).map .int) i ⟨rfl, 0, Nat.zero_le _, rfl, rfl⟩ ?_ ?_
 ·rintro d _ ⟨rfl, n, hn, hr, rfl⟩
  refine .inr ⟨xs.map g, ?_, he⟩
  have : xs.drop n = [] := List.map_eq_nil_iff.mp hr.symm
  rw [List.take_of_length_le (List.drop_eq_nil_iff.mp this)]
 ·rintro v r d _ ⟨rfl, n, hn, hr, rfl⟩
  cases q : xs.drop n with
  | nil => rw [q] at hr; cases hr
  | cons x ys =>
   rw [q] at hr
   cases hr
   obtain ⟨h1, h2⟩ := drop_cons q
   refine ⟨by rw [List.length_map, List.length_map, List.length_take]; lia, hs x _ (List.mem_of_getElem? h1) fun L C => .ret ⟨rfl, n + 1, ?_, by rw [h2], ?_⟩⟩
   ·have := (List.getElem?_eq_some_iff.mp h1).1; lia
   ·rw [List.take_add_one, h1]; simp
end
theorem rg_up {l : Hl} {a b : Int} {k : Nat} (h : b = a + k) (h0 : -1000000000 <= a) (h1 : b <= 1000000000) : Its (.rng a b 1) l (rgW a 1 k) l := by
 subst h
 exact .inl ⟨⟨small_up (by lia) h0 h1, k, by rw [size_up (by lia)]; lia, rfl⟩, rfl⟩
theorem rg_down {l : Hl} {k : Nat} (h : k <= 1000000) : Its (.rng ((k : Int) - 1) (-1) (-1)) l (rgW ((k : Int) - 1) (-1) k) l := .inl ⟨⟨small_down h, k, size_down, rfl⟩, rfl⟩
end
section
noncomputable def inB (m : Nat) : W -> Bool
 | .int (.ofNat n) => Nat.ble n m
 | _ => false
theorem ofB {m : Nat} {v : W} (h : inB m v = true) : ∃ N : Nat, v = .int N /\ N <= m := by
 cases v with
 | int i =>
  cases i with
  | ofNat n => exact ⟨n, rfl, Nat.le_of_ble_eq_true h⟩
  | negSucc n => cases h
 | _ => exact ff_no h
theorem inN {l : List W} {m : Nat} (h : l.all (inB m) = true) {v : W} (hv : v ∈ l) : ∃ N : Nat, v = .int N /\ N <= m := ofB (List.all_eq_true.mp h v hv)
noncomputable def inI (a b : Int) : W -> Bool
 | .int i => decide (a <= i) && decide (i <= b)
 | _ => false
theorem inZ {l : List W} {a b : Int} (h : l.all (inI a b) = true) {v : W} (hv : v ∈ l) : ∃ i : Int, v = .int i /\ a <= i /\ i <= b := by
 have h := List.all_eq_true.mp h v hv
 cases v with
 | int i => exact ⟨i, rfl, of_decide_eq_true ((Bool.and_eq_true _ _).mp h).1, of_decide_eq_true ((Bool.and_eq_true _ _).mp h).2⟩
 | _ => exact ff_no h
end
local macro_rules | `(tactic| fail "bound") => `(tactic| (apply bd; (focus (repeat' (first | assumption | exact Nat.le_of_eq (by assumption) | with_reducible apply bnA | with_reducible apply bnC | with_reducible apply bnM | with_reducible apply Nat.add_le_add | exact bn0))); decide))
local macro_rules | `(tactic| fail "nope") => `(tactic| first | exact of_decide_eq_true (Eq.refl true) | fail "bound" | lia | (simp only [List.length_append, List.length_cons, List.length_nil, List.length_map, List.length_replicate, List.isEmpty_cons, List.isEmpty_nil, Bool.not_true, Bool.not_false, reduceCtorEq]; first | done | lia | omega))
local macro_rules | `(tactic| fail "br") => `(tactic| first
 | ((with_reducible show Br (decide _) _ _); first | refine' brT (by fail "nope") ?_ | refine' brF (by fail "nope") ?_)
 | ((with_reducible show Br (!decide _) _ _); first | refine' brNT (by fail "nope") ?_ | refine' brNF (by fail "nope") ?_)
 | refine' brt ?_
 | refine' brf ?_)
local macro_rules | `(tactic| fail "at") => `(tactic| first
 | with_reducible (first | refine' acc _ (by assumption) ?_ | refine' acc _ (Hl.at_set (by assumption)) ?_)
 | refine' acc 0 rfl ?_ | refine' acc 1 rfl ?_ | refine' acc 2 rfl ?_ | refine' acc 3 rfl ?_ | refine' acc 4 rfl ?_ | refine' acc 5 rfl ?_ | refine' acc 6 rfl ?_ | refine' acc 7 rfl ?_ | refine' acc 8 rfl ?_ | refine' acc 9 rfl ?_ | refine' acc 10 rfl ?_ | refine' acc 11 rfl ?_ | refine' acc 12 rfl ?_ | refine' acc 13 rfl ?_)
local macro_rules | `(tactic| fail "r") => `(tactic| first
 | ((with_reducible show Br _ _ _); fail "br")
 | ((with_reducible show Acc _ _ _); fail "at")
 | ((with_reducible show Sd _ _); refine' sd (by fail "nope") ?_)
 | ((with_reducible show ix _ _ _); refine' ixI (by first | decide | omega) (by first | decide | omega) (by rfl) ?_))
local macro_rules | `(tactic| fail "w") => `(tactic| ((try fail "r"); (repeat (refine' stI ?_; fail "r")); try (first | refine' stI ?_ | refine' RQ.ret ?_ | refine' RQ.next ?_ | refine' FQ.ret ?_ | refine' CQ.ret ?_ | refine' CQ.cont ?_ | refine' WQ.brk ?_)))
local macro_rules | `(tactic| lia) => `(tactic| first
 | with_reducible assumption
 | (with_reducible refine And.intro ?_ ?_ <;> lia)
 | exact Int.le_trans (by with_reducible assumption) (by decide)
 | (refine Int.le_trans ?_ (by with_reducible assumption); decide)
 | exact Int.lt_of_le_of_lt (by with_reducible assumption) (by decide)
 | exact And.left (by with_reducible assumption)
 | exact And.right (by with_reducible assumption)
 | fail "bound"
 | lia (splits := 9))
section
structure Tri where
 c : Int
 k : Int
 r : Int
noncomputable abbrev srC (t : Tri) : C2 := .il [t.c, t.k, t.r]
noncomputable def Dg (d m : Int) : Prop := 0 <= d /\ d < m
section
variable {X : Wd} (hX : Good X) {l : Hl} {K : W -> Hl -> Prop}
include hX
theorem take_s {n : Nat} {src : Addr} {t : Tri} {m : Int} (e : l.at n = some (src, srC t)) (hm : 0 < m /\ m < 1073741824) (h : ∀ d t', Dg d m -> K (.int d) (l.set n (srC t'))) : WC2 X 473 [.ref src, .int m] l K := by
 refine en473 hX fun κ => ?_
 fail "w"
 refine' brLE (fun hw => ?_) fun hw => ?_
 ·fail "w"
  exact h _ ⟨t.c / m, t.k, t.r⟩ ⟨Int.emod_nonneg _ (by lia), Int.emod_lt_of_pos _ hm.1⟩
 ·fail "w"
  exact h _ ⟨t.c, t.k + 1, t.r⟩ ⟨Int.emod_nonneg _ (by lia), Int.emod_lt_of_pos _ hm.1⟩
end
end
section
noncomputable def seV (k : Nat) (bs : List Int) : Int := if 128 * 256 ^ (k - 1) <= beV bs then beV bs - 2 * (128 * 256 ^ (k - 1)) else beV bs
noncomputable abbrev stC (d : Addr) (B : Array UInt8) (p : Nat) : C2 := .obj 309 d [(13, .bytes B), (14, .int p)]
structure At (B : Array UInt8) (p : Nat) (bs : List Int) : Prop where
 t : ((octs B).drop p).take bs.length = bs
 l : p + bs.length <= B.size
theorem At.left {B : Array UInt8} {p : Nat} {a b : List Int} (h : At B p (a ++ b)) : At B p a := by
 obtain ⟨t, l⟩ := h
 rw [List.length_append] at t l
 refine ⟨?_, by lia⟩
 have := congrArg (List.take a.length) t
 rwa [List.take_take, Nat.min_eq_left (by lia), List.take_left] at this
theorem At.right {B : Array UInt8} {p : Nat} {a b : List Int} (h : At B p (a ++ b)) : At B (p + a.length) b := by
 obtain ⟨t, l⟩ := h
 rw [List.length_append] at t l
 refine ⟨?_, by lia⟩
 have := congrArg (List.drop a.length) t
 rwa [List.drop_take, List.drop_drop, List.drop_left, Nat.add_sub_cancel_left] at this
section
variable {X : Wd} (hX : Good X) {l : Hl} {K : W -> Hl -> Prop} {n : Nat} {s d : Addr} {B : Array UInt8} {p : Nat} {bs : List Int}
include hX
theorem number_s {k : Int} {m : Nat} (e : l.at n = some (s, stC d B p)) (ha : At B p bs) (hm : bs.length = m) (hk : k = m) (hB : B.size <= 10000000) (h : K (.int (beV bs)) (l.set n (stC d B (p + m)))) : WC2 X 292 [.ref s, .int k] l K := by
 subst hk hm
 have hl := ha.l
 refine en292 hX fun κ => ?_
 fail "w"
 refine for_i (fun rem L' C' l' => ∃ j : Nat, j <= bs.length /\ rem = rgW ((p + j : Nat) : Int) 1 (bs.length - j) /\ L' = .s (.ref s) (.s (.int bs.length) (.s (.int ((p : Int) + bs.length)) (.s (.int (beV (bs.take j))) (.o .nil)))) /\ C' = .nil /\ l' = l)
  (rg_up rfl (by lia) (by lia)) ⟨0, by lia, rfl, rfl, rfl, rfl⟩ ?_ ?_
 ·rintro _ _ _ ⟨j, hj, hr, rfl, rfl, rfl⟩
  have hj' : j = bs.length := by
   cases q : bs.length - j with
   | zero => lia
   | succ m => rw [q] at hr; cases hr
  subst hj'
  fail "w"
  rw [List.take_of_length_le (Nat.le_refl _)]
  exact h
 ·rintro v rem _ _ _ ⟨j, hj, hr, rfl, rfl, rfl⟩
  cases q : bs.length - j with
  | zero => rw [q] at hr; cases hr
  | succ m =>
   rw [q] at hr
   cases hr
   fail "w"
   refine FQ.next [4] Sub.rfl ⟨j + 1, by lia, by rw [show bs.length - (j + 1) = m by lia]; congr 1, ?_, rfl, rfl⟩
   have e3 := take_more (k := bs.length) (show j < bs.length by lia) (octs_at (B := B) (i := p + j) (by lia))
   rw [ha.t] at e3
   rw [e3, beV_snoc]; rfl
theorem signed_s {k : Int} {m : Nat} (e : l.at n = some (s, stC d B p)) (ha : At B p bs) (hm : bs.length = m) (hk : k = m) (h1 : 1 <= m /\ m <= 4) (hB : B.size <= 10000000) (h : K (.int (seV m bs)) (l.set n (stC d B (p + m)))) : WC2 X 299 [.ref s, .int k] l K := by
 subst hk hm
 have hk1 : ((bs.length : Int) - 1).toNat = bs.length - 1 := by lia
 refine en299 hX fun κ => ?_
 fail "w"
 refine number_s hX e ha rfl rfl hB ?_
 fail "w"
 unfold seV at h
 rw [hk1]
 refine' brLE (fun hw => ?_) fun hw => ?_
 ·rw [if_pos (by lia)] at h
  fail "w"
  exact h
 ·rw [if_neg (by lia)] at h
  fail "w"
  exact h
theorem taken_s {k : Nat} {i : Int} (e : l.at n = some (s, stC d B p)) (hi : i = k) (hl : p + k <= B.size) (hB : B.size <= 10000000) (h : K (.bytes (pickB B p (p + k))) (l.set n (stC d B (p + k)))) : WC2 X 306 [.ref s, .int i] l K := by
 subst hi
 refine en306 hX fun κ => ?_
 fail "w"
 exact h
end
end
section
theorem inT {o : Option W} {v : W} {P : Bool -> Prop} (h : o = some v) (k : P true) : ∃ r, o.isSome = r /\ P r := ⟨true, by rw [h]; rfl, k⟩
theorem inF {o : Option W} {P : Bool -> Prop} (h : o = none) (k : P false) : ∃ r, o.isSome = r /\ P r := ⟨false, by rw [h]; rfl, k⟩
theorem gtS {o : Option W} {v d : W} {P : W -> Prop} (h : o = some v) (k : P v) : ∃ r, o.getD d = r /\ P r := ⟨v, by rw [h]; rfl, k⟩
noncomputable def smallP : List Int := [0, 196608, 98304, 65536, 262144, 655360, 65536]
noncomputable def fnm (k : Int) : Str := if k = 3 then Str.ofString "fc" else Str.ofString "fcu"
noncomputable def fck (k : Int) : Int := if k = 3 then 77 else 0
noncomputable abbrev crow (w : Int) : W := .tup [.int w, .int 0, .int 0, .int 0, .int 0, .int 0]
noncomputable def fcs (k : Int) : List (Int × W) := if k = 3 then [(65, crow 5), (97, crow (-3)), (200, crow 70000)] else [(66, crow 9), (98, crow 0), (255, crow 1048573)]
noncomputable abbrev isF (k : Int) : Prop := k = 3 \/ k = 70
noncomputable def fontC (d ch : Addr) (k ck : Int) : C2 := .obj 246 d [(0, .int k), (1, .str (fnm k)), (2, .int 655360), (3, .int 655360), (4, .int ck), (5, .il smallP), (6, .ref ch), (7, .tup []), (8, .tup []), (9, .int 256), (10, .int (-1)), (11, .int 45), (12, .int (-1))]
structure FA where
 fo : Addr
 f1 : Addr
 d1 : Addr
 c1 : Addr
 f2 : Addr
 d2 : Addr
 c2 : Addr
noncomputable def hF (A : FA) (R : Hl) : Hl := .c A.fo (.dict [(3, .ref A.f1), (70, .ref A.f2)]) (.c A.f1 (fontC A.d1 A.c1 3 77) (.c A.c1 (.dict (fcs 3)) (.c A.f2 (fontC A.d2 A.c2 70 0) (.c A.c2 (.dict (fcs 70)) R))))
structure PSt where
 h : Int
 v : Int
 w : Int
 x : Int
 y : Int
 z : Int
 font : Int
 deepest : Int
 stack : List W
 rows : List W
structure RA where
 st : Addr
 sd : Addr
 ps : Addr
 pd : Addr
 sk : Addr
 rw : Addr
 kn : Addr
 pg : Addr
 dv : Addr
 f : FA
noncomputable def psC (A : RA) (q : PSt) : C2 := .obj 351 A.pd [(15, .int q.h), (16, .int q.v), (17, .int q.w), (18, .int q.x), (19, .int q.y), (20, .int q.z), (21, .int q.font), (22, .ref A.sk), (23, .int q.deepest), (24, .ref A.rw)]
structure Ro where
 P : C2
 D : C2
 R : Hl
noncomputable def hK (A : RA) (B : Array UInt8) (p : Nat) (kv : List (Int × W)) (R : Ro) : Hl := .c A.kn (.dict kv) (.c A.pg R.P (.c A.dv R.D (.c A.st (stC A.sd B p) (hF A.f R.R))))
noncomputable def hR (A : RA) (B : Array UInt8) (p : Nat) (q : PSt) (kv : List (Int × W)) (R : Ro) : Hl := .c A.rw (.list q.rows) (.c A.sk (.list q.stack) (.c A.ps (psC A q) (hK A B p kv R)))
noncomputable def four (q : PSt) : W := .tup [.int q.h, .int q.v, .int q.w, .int q.x, .int q.y, .int q.z]
structure Ok (q : PSt) : Prop where
 h : -2147483647 <= q.h /\ q.h <= 2147483647
 v : -2147483647 <= q.v /\ q.v <= 2147483647
 s : q.stack.length <= 1000000
 r : q.rows.length <= 1000000
noncomputable def lrow (q : PSt) (code : Int) : W := .tup [.int 0, .int q.h, .int q.v, .int q.font, .int code]
section
variable {X : Wd} (hX : Good X) {l : Hl} {R : Ro} {K : W -> Hl -> Prop} {A : RA} {B : Array UInt8} {p : Nat} {q : PSt} {kv : List (Int × W)}
include hX
theorem is_whole_s {i lo hi : Int} (h : K (.bool (decide (lo <= i) && decide (i <= hi))) l) : WC2 X 97 [.int i, .int lo, .int hi] l K := by
 refine en97 hX fun κ => ?_
 fail "w"
 refine' brLE (fun hw => ?_) fun hw => ?_
 ·rw [decide_eq_true hw] at h
  fail "w"
  exact h
 ·have e := decide_eq_false (Int.not_le.mpr hw)
  rw [e] at h
  fail "w"
  rw [e]
  exact h
theorem is_size_s {i : Int} (hi : -1073741823 <= i /\ i <= 1073741823) (h : K (.bool true) l) : WC2 X 114 [.int i] l K := by
 refine en114 hX fun κ => ?_
 fail "w"
 refine is_whole_s hX ?_
 fail "w"
 rw [decide_eq_true (show -1073741823 <= i from hi.1), decide_eq_true hi.2]
 exact h
theorem push_s (ok : Ok q) (h : K .none (hR A B p { q with stack := q.stack ++ [four q], deepest := max q.deepest ((q.stack.length : Int) + 1) } kv R)) : WC2 X 334 [.ref A.ps] (hR A B p q kv R) K := by
 have := ok.s
 refine en334 hX fun κ => ?_
 fail "w"
 rw [List.length_append] at *
 exact h
theorem pop_s {st : List W} {h v w x y z : Int} (ok : Ok q) (hs : q.stack = st ++ [.tup [.int h, .int v, .int w, .int x, .int y, .int z]]) (k : K .none (hR A B p { q with h := h, v := v, w := w, x := x, y := y, z := z, stack := st } kv R)) : WC2 X 341 [.ref A.ps] (hR A B p q kv R) K := by
 have h1 := ok.s
 have h2 := congrArg List.length hs
 simp only [List.length_append, List.length_cons, List.length_nil] at h2
 refine en341 hX fun κ => ?_
 fail "w"
 refine ⟨st, _, hs, by lia, ?_⟩
 fail "w"
 exact k
theorem go_s {a d : Int} (h1 : -2147483647 <= q.h + a /\ q.h + a <= 2147483647) (h2 : -2147483647 <= q.v + d /\ q.v + d <= 2147483647) (h : K .none (hR A B p { q with h := q.h + a, v := q.v + d } kv R)) : WC2 X 348 [.ref A.ps, .int a, .int d] (hR A B p q kv R) K := by
 refine en348 hX fun κ => ?_
 fail "w"
 exact h
theorem is_fd_s {o : Int} (h : K (.bool (decide (243 <= o) && decide (o < 247))) l) : WC2 X 395 [.int o] l K := by
 refine en395 hX fun κ => ?_
 fail "w"
 refine' brLE (fun hw => ?_) fun hw => ?_
 ·rw [decide_eq_true hw] at h
  fail "w"
  exact h
 ·have e := decide_eq_false (Int.not_le.mpr hw)
  rw [e] at h
  fail "w"
  rw [e]
  exact h
end
end
section
section
variable {X : Wd} (hX : Good X) {l : Hl} {R : Ro} {K : W -> Hl -> Prop} {A : RA} {B : Array UInt8} {p : Nat} {q : PSt} {kv : List (Int × W)}
include hX
theorem units_s {n : Nat} {s d : Addr} {a b c : List Int} (e : l.at n = some (s, stC d B p)) (ha : At B p (a ++ (b ++ c))) (la : a.length = 4) (lb : b.length = 4) (lc : c.length = 4) (hB : B.size <= 10000000)
  (hp : 0 < seV 4 a /\ 0 < seV 4 b /\ 0 < seV 4 c) (h : K (.tup [.int (seV 4 a), .int (seV 4 b), .int (seV 4 c)]) (l.set n (stC d B (p + 12)))) : WC2 X 383 [.ref s] l K := by
 have a2 := ha.right
 rw [la] at a2
 have b2 := a2.right
 rw [lb] at b2
 refine en383 hX fun κ => ?_
 fail "w"
 refine signed_s hX e ha.left la rfl (by decide) hB ?_
 fail "w"
 refine signed_s hX (Hl.at_set e) a2.left lb rfl (by decide) hB ?_
 rw [Hl.set_set]
 fail "w"
 refine signed_s hX (Hl.at_set e) b2 lc rfl (by decide) hB ?_
 rw [Hl.set_set]
 fail "w"
 rintro M ⟨hM, _⟩
 have hpos : 0 < M := by
  simp only [List.mem_cons, List.not_mem_nil, or_false] at hM
  rcases hM with rfl | rfl | rfl
  ·exact hp.1
  ·exact hp.2.1
  ·exact hp.2.2
 fail "w"
 exact h
inductive Mv : Int -> Int -> Int -> List Int -> Int -> Int -> Int -> Prop
 | p {f s : Int} {bs : List Int} (h : 1 <= bs.length /\ bs.length <= 4) : Mv f s ((bs.length : Int) - 1) bs (seV bs.length bs) f s
 | f0 {f s : Int} : Mv f s 4 [] f f s
 | f {f s : Int} {bs : List Int} (h : 1 <= bs.length /\ bs.length <= 4) : Mv f s ((bs.length : Int) + 4) bs (seV bs.length bs) (seV bs.length bs) s
 | s0 {f s : Int} : Mv f s 9 [] s f s
 | s {f s : Int} {bs : List Int} (h : 1 <= bs.length /\ bs.length <= 4) : Mv f s ((bs.length : Int) + 9) bs (seV bs.length bs) f (seV bs.length bs)
theorem move_s {k f s sz f' s' : Int} {bs : List Int} {n : Nat} {a d : Addr} (e : l.at n = some (a, stC d B p)) (m : Mv f s k bs sz f' s') (ha : At B p bs) (hB : B.size <= 10000000) (h : K (.tup [.int sz, .int f', .int s']) (l.set n (stC d B (p + bs.length)))) : WC2 X 402 [.ref a, .int k, .int f, .int s] l K := by
 refine en402 hX fun κ => ?_
 induction m with
 | p hb =>
  fail "w"
  refine signed_s hX e ha rfl (by lia) hb hB ?_
  fail "w"
  exact h
 | f0 => fail "w"; rwa [<- Hl.set_id e]
 | f hb =>
  fail "w"
  refine signed_s hX e ha rfl (by lia) hb hB ?_
  fail "w"
  exact h
 | s0 => fail "w"; rwa [<- Hl.set_id e]
 | s hb =>
  fail "w"
  refine signed_s hX e ha rfl (by lia) hb hB ?_
  fail "w"
  exact h
theorem fc_at {k : Int} (hf : isF k) : ∃ f d c, ∃ n m, lkG [(3, W.ref A.f.f1), (70, W.ref A.f.f2)] k = some (.ref f) /\ (∀ {x y z u}, (Hl.c A.rw x (.c A.sk y (.c A.ps z (.c A.kn u (.c A.pg R.P (.c A.dv R.D (.c A.st (stC A.sd B p) (hF A.f R.R)))))))).at n = some (f, fontC d c k (fck k)) /\ (Hl.c A.rw x (.c A.sk y (.c A.ps z (.c A.kn u (.c A.pg R.P (.c A.dv R.D (.c A.st (stC A.sd B p) (hF A.f R.R)))))))).at m = some (c, .dict (fcs k))) := by
 rcases hf with rfl | rfl
 ·exact ⟨A.f.f1, A.f.d1, A.f.c1, 8, 9, rfl, rfl, rfl⟩
 ·exact ⟨A.f.f2, A.f.d2, A.f.c2, 10, 11, rfl, rfl, rfl⟩
theorem has_s {n m : Nat} {f c d : Addr} {k ck code : Int} {v : W} {cs} (e1 : l.at n = some (f, fontC d c k ck)) (e2 : l.at m = some (c, .dict cs)) (hc : lkG cs code = some v) (h : K (.bool true) l) : WC2 X 180 [.ref f, .int code] l K := by
 refine en180 hX fun κ => ?_
 fail "w"
 refine inT hc ?_
 fail "w"
 exact h
theorem width_s {n m : Nat} {f c d : Addr} {k ck code w : Int} {cs} (e1 : l.at n = some (f, fontC d c k ck)) (e2 : l.at m = some (c, .dict cs)) (hc : lkG cs code = some (crow w)) (h : K (.int w) l) : WC2 X 187 [.ref f, .int code] l K := by
 refine en187 hX fun κ => ?_
 fail "w"
 refine gtS hc ?_
 fail "w"
 exact h
omit hX in
theorem crow_lk {k code : Int} {v : W} (h : lkG (fcs k) code = some v) : ∃ w, v = crow w /\ -3 <= w /\ w <= 1048573 /\ code <= 255 /\ 0 <= code := by
 have key : ∀ {cs : List (Int × W)}, (∀ p ∈ cs, ∃ w, p.2 = crow w /\ -3 <= w /\ w <= 1048573 /\ p.1 <= 255 /\ 0 <= p.1) -> lkG cs code = some v -> ∃ w, v = crow w /\ -3 <= w /\ w <= 1048573 /\ code <= 255 /\ 0 <= code := by
  intro cs
  induction cs with
  | nil => intro _ h; cases h
  | cons p r ih =>
   intro hp h
   dsimp only [lkG] at h
   split at h
   ·rename_i z; cases h; subst z; exact hp p (.head _)
   ·exact ih (fun q hq => hp q (.tail _ hq)) h
 refine key ?_ h
 unfold fcs
 intro p hp
 split at hp <;> simp only [List.mem_cons, List.not_mem_nil, or_false] at hp <;> rcases hp with rfl | rfl | rfl <;> exact ⟨_, rfl, by decide, by decide, by decide, by decide⟩
theorem letter_s {code w : Int} {m : Bool} (hf : isF q.font) (hc : lkG (fcs q.font) code = some (crow w)) (o1 : Ok q) (o2 : Ok { q with h := if m then q.h + w else q.h })
  (h : K .none (hR A B p { q with h := if m then q.h + w else q.h, rows := q.rows ++ [lrow q code] } kv R)) : WC2 X 409 [.ref A.ps, .int code, .ref A.f.fo, .bool m] (hR A B p q kv R) K := by
 refine cps fun G0 z0 => ?_
 obtain ⟨w', e, _, _, h3, _⟩ := crow_lk hc
 obtain ⟨f, d, c, i, j, e1, e2⟩ := fc_at hX (A := A) (B := B) (p := p) (R := R) hf
 refine z0 ?_
 clear z0
 have hr := o1.r
 have e3 : (hR A B p q kv R).at i = some (f, fontC d c q.font (fck q.font)) := e2.1
 refine en409 hX fun κ => ?_
 fail "w"
 refine gtS e1 ?_
 fail "w"
 refine has_s hX e3 e2.2 hc ?_
 fail "w"
 induction m with
 | true =>
  fail "w"
  refine acc _ e2.1 ?_
  fail "w"
  refine width_s hX e2.1 e2.2 hc ?_
  fail "w"
  refine go_s hX (A := A) (B := B) (p := p) (q := { q with rows := q.rows ++ [lrow q code] }) (kv := kv) (R := R) o2.h (by rw [Int.add_zero]; exact o2.v) ?_
  fail "w"
  rw [Int.add_zero]
  exact h
 | false =>
  fail "w"
  exact h
theorem rule_s {a b : List Int} {m : Bool} (ha : At B p (a ++ b)) (la : a.length = 4) (lb : b.length = 4) (hB : B.size <= 10000000) (o1 : Ok q) (o2 : Ok { q with h := if m then q.h + seV 4 b else q.h })
  (h : K .none (hR A B (p + 8) { q with h := if m then q.h + seV 4 b else q.h, rows := if 0 < seV 4 a /\ 0 < seV 4 b then q.rows ++ [.tup [.int 1, .int q.h, .int q.v, .int (seV 4 a), .int (seV 4 b)]] else q.rows } kv R)) : WC2 X 416 [.ref A.st, .ref A.ps, .bool m] (hR A B p q kv R) K := by
 have hb := ha.right
 rw [la] at hb
 have hr := o1.r
 refine en416 hX fun κ => ?_
 fail "w"
 refine signed_s hX (n := 6) rfl ha.left la rfl (by decide) hB ?_
 fail "w"
 refine signed_s hX (n := 6) rfl hb lb rfl (by decide) hB ?_
 have fin : ∀ {rows}, K .none (hR A B (p + 8) { q with h := if m then q.h + seV 4 b else q.h, rows := rows } kv R) -> ru X κ (RQ K) c416_0 [] (.s (.ref A.st) (.s (.ref A.ps) (.s (.bool m) (.s (.int (seV 4 a)) (.s (.int (seV 4 b)) .nil))))) .nil (hR A B (p + 8) { q with rows := rows } kv R) := fun {rows} h => by
  induction m with
  | true =>
   fail "w"
   refine go_s hX (A := A) (B := B) (p := p + 8) (q := { q with rows := rows }) (kv := kv) (R := R) o2.h (by rw [Int.add_zero]; exact o2.v) ?_
   fail "w"
   rw [Int.add_zero]
   exact h
  | false =>
   fail "w"
   exact h
 fail "w"
 refine' brLE (fun ha0 => ?_) fun ha0 => ?_
 ·fail "w"
  refine' brLE (fun hb0 => ?_) fun hb0 => ?_
  ·rw [if_pos (c := 0 < seV 4 a /\ 0 < seV 4 b) ⟨ha0, hb0⟩] at h
   fail "w"
   exact Stp.get (fin h)
  ·rw [if_neg (c := 0 < seV 4 a /\ 0 < seV 4 b) (fun z => by lia)] at h
   fail "w"
   exact Stp.get (fin h)
 ·rw [if_neg (c := 0 < seV 4 a /\ 0 < seV 4 b) (fun z => by lia)] at h
  fail "w"
  exact Stp.get (fin h)
theorem choose_s {k : Int} {v : W} (hk : lkG kv k = some v) (h : K .none (hR A B p { q with font := k } kv R)) : WC2 X 423 [.ref A.ps, .int k, .ref A.kn] (hR A B p q kv R) K := by
 refine en423 hX fun κ => ?_
 fail "w"
 refine inT hk ?_
 fail "w"
 exact h
end
end
section
noncomputable def codes (x : Str) : List Int := x.cps.toList.map fun (c : Nat) => (c : Int)
theorem octs_inj {a b : Array UInt8} (h : octs a = octs b) : a = b := by
 have key : ∀ (x y : List UInt8), x.map (fun c => ((c.toNat : Nat) : Int)) = y.map (fun c => ((c.toNat : Nat) : Int)) -> x = y := by
  intro x
  induction x with
  | nil => intro y h; cases y with | nil => rfl | cons _ _ => cases h
  | cons c x ih =>
   intro y h
   cases y with
   | nil => cases h
   | cons d y =>
    obtain ⟨h1, h2⟩ := List.cons.inj h
    rw [ih y h2, UInt8.toNat_inj.mp (Int.ofNat.inj h1)]
 exact Array.toList_inj.mp (key _ _ h)
theorem octs_pick {B : Array UInt8} {i j : Nat} : octs (pickB B i j) = ((octs B).drop i).take (j - i) := by
 unfold octs pickB
 rw [List.map_take, List.map_drop]
inductive FRest : Nat -> Int -> W -> List Int -> Prop
 | mk {an ac as ad aa al am : List Int} {b : Array UInt8} (ln : 1 <= an.length /\ an.length <= 4) (lc : ac.length = 4) (ls : as.length = 4) (ld : ad.length = 4) (la : aa.length = 1) (ll : al.length = 1) (lm : (am.length : Int) = beV aa + beV al)
  (hn : isF (beV an)) (hsz : beV as = 655360) (hd : 0 < beV ad /\ beV ad <= 134217727) (hck : beV ac = fck (beV an) \/ beV ac = 0 \/ fck (beV an) = 0) (hnm : am.drop (beV aa).toNat = codes (fnm (beV an))) (haa : 0 <= beV aa /\ beV aa <= am.length) (hb : octs b = am) :
  FRest an.length (beV an) (.tup [.int (beV ac), .int (beV as), .int (beV ad), .int (beV aa), .bytes b]) (an ++ (ac ++ (as ++ (ad ++ (aa ++ (al ++ am))))))
structure FnAt (l : Hl) (n i : Nat) (A : FA) : Prop where
 o : ∀ y, (l.set n y).at i = some (A.fo, .dict [(3, .ref A.f1), (70, .ref A.f2)])
 a : ∃ j, ∀ y, (l.set n y).at j = some (A.f1, fontC A.d1 A.c1 3 77)
 b : ∃ j, ∀ y, (l.set n y).at j = some (A.f2, fontC A.d2 A.c2 70 0)
theorem FnAt.at {l : Hl} {n i : Nat} {A : FA} (f : FnAt l n i A) {k : Int} (hk : isF k) : ∃ g d c j, lkG [(3, W.ref A.f1), (70, W.ref A.f2)] k = some (.ref g) /\ ∀ y, (l.set n y).at j = some (g, fontC d c k (fck k)) := by
 rcases hk with rfl | rfl
 ·obtain ⟨j, h⟩ := f.a; exact ⟨_, _, _, j, rfl, h⟩
 ·obtain ⟨j, h⟩ := f.b; exact ⟨_, _, _, j, rfl, h⟩
theorem putG_new {α : Type} {kv : List (Int × α)} {k : Int} {v : α} (h : lkG kv k = none) : putG kv k v = kv ++ [(k, v)] := by
 have : kv.any (fun p => decide (p.1 = k)) = false := by
  induction kv with
  | nil => rfl
  | cons p r ih =>
   dsimp only [lkG] at h
   by_cases z : p.1 = k
   ·rw [if_pos z] at h; cases h
   ·rw [if_neg z] at h; simp only [List.any_cons, ih h, decide_eq_false z]; rfl
 unfold putG
 rw [this]; rfl
section
variable {X : Wd} (hX : Good X) {l : Hl} {K : W -> Hl -> Prop} {B : Array UInt8} {p : Nat} {n i : Nat} {s d : Addr}
include hX
theorem number_t {k : Int} {m : Nat} {bs : List Int} {x} (e : l.at n = some (s, x)) (ha : At B p bs) (hm : bs.length = m) (hk : k = m) (hB : B.size <= 10000000) (h : K (.int (beV bs)) (l.set n (stC d B (p + m)))) : WC2 X 292 [.ref s, .int k] (l.set n (stC d B p)) K :=
 number_s hX (Hl.at_set e) ha hm hk hB (by rw [Hl.set_set]; exact h)
theorem font_s {A : FA} {o nr : Int} {row : W} {k : Nat} {bs : List Int} (e : l.at n = some (s, stC d B p)) (f : FnAt l n i A) (hd : FRest k nr row bs) (ha : At B p bs) (ho : o = 242 + (k : Int)) (hB : B.size <= 10000000) (h : K (.tup [.int nr, row]) (l.set n (stC d B (p + bs.length)))) : WC2 X 388 [.ref s, .int o, .ref A.fo] l K := by
 refine cps fun G0 z0 => ?_
 set_option tactic.hygienic true in obtain ⟨ln, lc, ls, ld, la, ll, lm, hn, hsz, hdd, hck, hnm, haa, hb⟩ := hd
 rename_i an ac as ad aa al am b0
 have t1 := ha.right
 have t2 := t1.right
 have t3 := t2.right
 have t4 := t3.right
 have t5 := t4.right
 have t6 := t5.right
 simp only [lc, ls, ld, la, ll] at t1 t2 t3 t4 t5 t6
 obtain ⟨g, dg, cg, j, hl, hat⟩ := f.at hn
 refine z0 ?_
 clear z0
 have hlen : p + (an ++ (ac ++ (as ++ (ad ++ (aa ++ (al ++ am)))))).length = p + an.length + 4 + 4 + 4 + 1 + 1 + am.length := by
  simp only [List.length_append, lc, ls, ld, la, ll]; lia
 have hb6 := t6.l
 have hpk : octs (pickB B (p + an.length + 4 + 4 + 4 + 1 + 1) (p + an.length + 4 + 4 + 4 + 1 + 1 + am.length)) = am := by
  rw [octs_pick, Nat.add_sub_cancel_left]; exact t6.t
 have hbb : pickB B (p + an.length + 4 + 4 + 4 + 1 + 1) (p + an.length + 4 + 4 + 4 + 1 + 1 + am.length) = b0 := octs_inj (hpk.trans hb.symm)
 have hbs : b0.size = am.length := by rw [<- octs_len, hb]
 refine en388 hX fun κ => ?_
 have fin : ru X κ (RQ K) c388_0 [] (.s (.ref s) (.s (.int o) (.s (.ref A.fo) (.s (.int (beV an)) (.s (.int (beV ac)) (.s (.int (beV as)) (.s (.int (beV ad)) (.s (.int (beV aa)) (.s (.int (beV al)) (.s (.bytes b0) (.s (.ref g) .nil))))))))))) .nil (l.set n (stC d B (p + an.length + 4 + 4 + 4 + 1 + 1 + am.length))) := by
  fail "w"
  refine sd (by rw [<- octs_len, octs_pick, List.length_take, List.length_drop, octs_len]; lia) ?_
  fail "w"
  refine acc _ (hat _) ?_
  fail "w"
  refine lc_int (xs := (fnm (beV an)).cps.toList) (fun c => .str ⟨#[c]⟩) (fun c => (c : Int)) (.inl ⟨⟨by rcases hn with z | z <;> rw [z] <;> kernel_rfl, rfl⟩, rfl⟩) (by rcases hn with z | z <;> rw [z] <;> decide) ?_ fun v Q' hv k env => ?_
  ·fail "w"
   refine ⟨_, ne_il (by rw [octs_pick, hb, List.take_of_length_le (by rw [List.length_drop]; lia), hnm]; rfl), ?_⟩
   fail "w"
   rw [hlen] at h
   exact h
  ·fail "w"
   exact k _ _
 fail "w"
 refine number_s hX e ha.left rfl (by lia) hB ?_
 fail "w"
 refine number_t hX e t1.left lc rfl hB ?_
 fail "w"
 refine number_t hX e t2.left ls rfl hB ?_
 fail "w"
 refine number_t hX e t3.left ld rfl hB ?_
 fail "w"
 refine number_t hX e t4.left la rfl hB ?_
 fail "w"
 refine number_t hX e t5.left ll rfl hB ?_
 fail "w"
 refine taken_s hX (Hl.at_set e) (k := am.length) (by lia) t6.l hB ?_
 rw [Hl.set_set, hbb]
 fail "w"
 refine acc _ (f.o _) ?_
 fail "w"
 refine acc _ (f.o _) ?_
 fail "w"
 refine gtS hl ?_
 fail "w"
 refine acc _ (hat _) ?_
 fail "w"
 refine acc _ (hat _) ?_
 fail "w"
 refine' brN (fun h1 => ?_) fun h1 => ?_
 ·fail "w"
  refine' brN (fun h2 => ?_) fun h2 => ?_
  ·fail "w"
   exact acc _ (hat _) (stI (brNF ((hck.resolve_left h1).resolve_left h2) fin))
  ·exact fin
 ·exact fin
theorem add_s {A : FA} {o nr : Int} {row : W} {k : Nat} {bs : List Int} {kv : List (Int × W)} {kn : Addr} (e : l.at n = some (s, stC d B p)) (f : FnAt l n i A) (ek : ∀ y, (l.set n y).at j = some (kn, .dict kv)) (hd : FRest k nr row bs) (ha : At B p bs) (ho : o = 242 + (k : Int)) (hB : B.size <= 10000000) (hk : lkG kv nr = none) (hl : kv.length <= 1000) (h : K .none ((l.set n (stC d B (p + bs.length))).set j (.dict (kv ++ [(nr, row)])))) : WC2 X 430 [.ref s, .int o, .ref kn, .ref A.fo] l K := by
 refine en430 hX fun κ => ?_
 fail "w"
 refine font_s hX e f hd ha ho hB ?_
 fail "w"
 refine acc _ (ek _) ?_
 fail "w"
 refine inF hk ?_
 fail "w"
 refine acc _ (ek _) ?_
 fail "w"
 rw [putG_new hk]
 exact h
end
end
section
inductive Step (kv : List (Int × W)) : Int -> List Int -> PSt -> PSt -> List (Int × W) -> Prop
 | letter1 {q : PSt} {o w : Int} (h : 0 <= o /\ o < 128) (hf : isF q.font) (hc : lkG (fcs q.font) o = some (crow w)) (o1 : Ok q) (o2 : Ok { q with h := q.h + w }) : Step kv o [] q { q with h := q.h + w, rows := q.rows ++ [lrow q o] } []
 | letter2 {q : PSt} {w : Int} {bs : List Int} (h : 1 <= bs.length /\ bs.length <= 4) (hf : isF q.font) (hc : lkG (fcs q.font) (beV bs) = some (crow w)) (o1 : Ok q) (o2 : Ok { q with h := q.h + w }) : Step kv (127 + (bs.length : Int)) bs q { q with h := q.h + w, rows := q.rows ++ [lrow q (beV bs)] } []
 | letter3 {q : PSt} {w : Int} {bs : List Int} (h : 1 <= bs.length /\ bs.length <= 4) (hf : isF q.font) (hc : lkG (fcs q.font) (beV bs) = some (crow w)) (o1 : Ok q) : Step kv (132 + (bs.length : Int)) bs q { q with rows := q.rows ++ [lrow q (beV bs)] } []
 | rule {q : PSt} {m : Bool} {a b : List Int} (la : a.length = 4) (lb : b.length = 4) (o1 : Ok q) (o2 : Ok { q with h := if m then q.h + seV 4 b else q.h }) : Step kv (if m then 132 else 137) (a ++ b) q
   { q with h := if m then q.h + seV 4 b else q.h, rows := if 0 < seV 4 a /\ 0 < seV 4 b then q.rows ++ [.tup [.int 1, .int q.h, .int q.v, .int (seV 4 a), .int (seV 4 b)]] else q.rows } []
 | nop {q : PSt} : Step kv 138 [] q q []
 | push {q : PSt} (o1 : Ok q) : Step kv 141 [] q { q with stack := q.stack ++ [four q], deepest := max q.deepest ((q.stack.length : Int) + 1) } []
 | pop {q : PSt} {st : List W} {h v w x y z : Int} (o1 : Ok q) (hs : q.stack = st ++ [.tup [.int h, .int v, .int w, .int x, .int y, .int z]]) : Step kv 142 [] q { q with h := h, v := v, w := w, x := x, y := y, z := z, stack := st } []
 | right {q : PSt} {k sz w x : Int} {bs : List Int} (m : Mv q.w q.x k bs sz w x) (o1 : Ok q) (o2 : Ok { q with h := q.h + sz }) : Step kv (143 + k) bs q { q with h := q.h + sz, w := w, x := x } []
 | down {q : PSt} {k sz y z : Int} {bs : List Int} (m : Mv q.y q.z k bs sz y z) (o1 : Ok q) (o2 : Ok { q with v := q.v + sz }) : Step kv (157 + k) bs q { q with v := q.v + sz, y := y, z := z } []
 | font1 {q : PSt} {k : Int} {v : W} (h0 : 0 <= k /\ k < 64) (hv : lkG kv k = some v) : Step kv (171 + k) [] q { q with font := k } []
 | font2 {q : PSt} {bs : List Int} {v : W} (h : 1 <= bs.length /\ bs.length <= 4) (hv : lkG kv (beV bs) = some v) : Step kv (234 + (bs.length : Int)) bs q { q with font := beV bs } []
 | special {q : PSt} {bs : List Int} {b : Array UInt8} (h : 1 <= bs.length /\ bs.length <= 4) (hb : beV bs = (b.size : Int)) (o1 : Ok q) : Step kv (238 + (bs.length : Int)) (bs ++ octs b) q { q with rows := q.rows ++ [.tup [.int 2, .int q.h, .int q.v, .bytes b]] } []
 | fdef {q : PSt} {k : Nat} {nr : Int} {row : W} {bs : List Int} (hd : FRest k nr row bs) (hk : lkG kv nr = none) (hl : kv.length <= 1000) : Step kv (242 + (k : Int)) bs q q [(nr, row)]
theorem Mv.room {f s k sz f' s' : Int} {bs : List Int} (m : Mv f s k bs sz f' s') : 0 <= k /\ k < 14 := by
 induction m <;> lia
theorem FRest.k4 {k : Nat} {nr : Int} {row : W} {bs : List Int} (h : FRest k nr row bs) : 1 <= k /\ k <= 4 := by cases h; assumption
theorem Step.op {kv d : List (Int × W)} {o : Int} {r : List Int} {q q' : PSt} (s : Step kv o r q q' d) : 0 <= o /\ o < 256 /\ o ≠ 140 := by
 induction s with
 | letter1 h _ _ _ _ => lia
 | letter2 h _ _ _ _ => lia
 | letter3 h _ _ _ => lia
 | @rule _ m _ _ _ _ _ _ => induction m <;> simp
 | nop => lia
 | push _ => lia
 | pop _ _ => lia
 | right m _ _ => have := m.room; lia
 | down m _ _ => have := m.room; lia
 | font1 h _ => lia
 | font2 h _ => lia
 | special h _ _ => lia
 | fdef hd _ _ => have := hd.k4; lia
inductive Reads : List (Int × W) -> List Int -> PSt -> PSt -> List (Int × W) -> Prop
 | nil {kv q} : Reads kv [] q q []
 | cons {kv o r bs q q1 q2 d1 d2} (s : Step kv o r q q1 d1) (t : Reads (kv ++ d1) bs q1 q2 d2) : Reads kv (o :: (r ++ bs)) q q2 (d1 ++ d2)
theorem Reads.append {kv bs cs q q1 q2 d1 d2} (a : Reads kv bs q q1 d1) (b : Reads (kv ++ d1) cs q1 q2 d2) : Reads kv (bs ++ cs) q q2 (d1 ++ d2) := by
 induction a with
 | nil => simpa using b
 | cons s t ih =>
  rw [<- List.append_assoc] at b
  have := Reads.cons s (ih b)
  simpa [List.append_assoc] using this
theorem Reads.one {kv o r q q1 d} (s : Step kv o r q q1 d) : Reads kv (o :: r) q q1 d := by
 have := Reads.cons s (Reads.nil)
 simpa using this
section
variable {X : Wd} (hX : Good X) {R : Ro} {K : W -> Hl -> Prop} {A : RA} {B : Array UInt8} {p : Nat} {q : PSt} {kv : List (Int × W)}
include hX
theorem fnR : FnAt (hR A B p q kv R) 6 7 A.f := ⟨fun O => rfl, ⟨8, fun O => rfl⟩, ⟨10, fun O => rfl⟩⟩
theorem step_s {o : Int} {r : List Int} {q' : PSt} {d : List (Int × W)} (s : Step kv o r q q' d) (ha : At B p r) (hB : B.size <= 10000000) (h : K .none (hR A B (p + r.length) q' (kv ++ d) R)) : WC2 X 437 [.ref A.st, .ref A.ps, .int o, .ref A.kn, .ref A.f.fo] (hR A B p q kv R) K := by
 refine en437 hX fun κ => ?_
 induction s with
 | letter1 h0 hf hc o1 o2 =>
  simp only [List.append_nil] at h
  fail "w"
  refine letter_s hX (m := true) hf hc o1 o2 ?_
  fail "w"
  exact h
 | @letter2 q _ r h0 hf hc o1 o2 =>
  rw [List.append_nil] at h
  fail "w"
  refine number_s hX (n := 6) rfl ha rfl (by lia) hB ?_
  fail "w"
  refine letter_s hX (m := true) (A := A) (B := B) (p := p + r.length) (q := q) (kv := kv) (R := R) hf hc o1 o2 ?_
  fail "w"
  exact h
 | @letter3 q _ r h0 hf hc o1 =>
  rw [List.append_nil] at h
  fail "w"
  refine number_s hX (n := 6) rfl ha rfl (by lia) hB ?_
  fail "w"
  refine letter_s hX (m := false) (A := A) (B := B) (p := p + r.length) (q := q) (kv := kv) (R := R) hf hc o1 o1 ?_
  fail "w"
  exact h
 | @rule _ m a b la lb o1 o2 =>
  simp only [List.append_nil, List.length_append, la, lb] at h
  induction m with
  | true =>
   fail "w"
   refine rule_s hX (m := true) ha la lb hB o1 o2 ?_
   fail "w"
   exact h
  | false =>
   fail "w"
   refine rule_s hX (m := false) ha la lb hB o1 o2 ?_
   fail "w"
   exact h
 | nop =>
  rw [List.append_nil] at h
  fail "w"
  exact h
 | push o1 =>
  rw [List.append_nil] at h
  fail "w"
  refine push_s hX o1 ?_
  fail "w"
  exact h
 | pop o1 hs =>
  rw [List.append_nil] at h
  fail "w"
  refine pop_s hX o1 hs ?_
  fail "w"
  exact h
 | @right q k sz w x r m o1 o2 =>
  rw [List.append_nil] at h
  have hm := m.room
  fail "w"
  rw [Int.add_comm 143, Int.add_sub_cancel]
  refine move_s hX (n := 6) rfl m ha hB ?_
  fail "w"
  refine go_s hX (A := A) (B := B) (p := p + r.length) (q := { q with w := w, x := x }) (kv := kv) (R := R) o2.h (by rw [Int.add_zero]; exact o1.v) ?_
  fail "w"
  rw [Int.add_zero]
  exact h
 | @down q k sz y z r m o1 o2 =>
  rw [List.append_nil] at h
  have hm := m.room
  fail "w"
  rw [Int.add_comm 157, Int.add_sub_cancel]
  refine move_s hX (n := 6) rfl m ha hB ?_
  fail "w"
  refine go_s hX (A := A) (B := B) (p := p + r.length) (q := { q with y := y, z := z }) (kv := kv) (R := R) (by rw [Int.add_zero]; exact o1.h) o2.v ?_
  fail "w"
  rw [Int.add_zero]
  exact h
 | font1 h0 hv =>
  rw [List.append_nil] at h
  fail "w"
  rw [Int.add_comm 171, Int.add_sub_cancel]
  refine choose_s hX hv ?_
  fail "w"
  exact h
 | @font2 q r _ h0 hv =>
  rw [List.append_nil] at h
  fail "w"
  refine number_s hX (n := 6) rfl ha rfl (by lia) hB ?_
  fail "w"
  refine choose_s hX (A := A) (B := B) (p := p + r.length) (q := q) (kv := kv) (R := R) hv ?_
  fail "w"
  exact h
 | @special _ bs b h0 hb o1 =>
  have hr := o1.r
  have h8 := ha.right
  have h9 := h8.l
  rw [octs_len] at h9
  rw [List.append_nil, List.length_append, octs_len] at h
  fail "w"
  refine number_s hX (n := 6) rfl ha.left rfl (by lia) hB ?_
  rw [hb]
  fail "w"
  refine taken_s hX (n := 6) rfl rfl h9 hB ?_
  have e : pickB B (p + bs.length) (p + bs.length + b.size) = b := octs_inj (by rw [octs_pick, Nat.add_sub_cancel_left, <- octs_len b]; exact h8.t)
  rw [e]
  fail "w"
  rw [Nat.add_assoc]
  exact h
 | @fdef _ k nr row _ hd hk hl =>
  have h4 := hd.k4
  fail "w"
  refine is_fd_s hX ?_
  rw [decide_eq_true (show 243 <= 242 + (k : Int) by lia), decide_eq_true (show 242 + (k : Int) < 247 by lia)]
  fail "w"
  refine add_s hX (n := 6) (i := 7) (j := 3) rfl (fnR hX) (fun O => rfl) hd ha rfl hB hk hl ?_
  fail "w"
  exact h
end
end
section
noncomputable def q0 : PSt := ⟨0, 0, 0, 0, 0, 0, -1, 0, [], []⟩
theorem beV_one {o : Int} : beV [o] = o := by rw [show ([o] : List Int) = [] ++ [o] from rfl, beV_snoc]; show 256 * 0 + o = o; lia
theorem At.flat {B : Array UInt8} {m : Nat} {l : List (List Int)} : ∀ {p j : Nat} {x : List Int}, (∀ x ∈ l, x.length = m) -> l[j]? = some x -> At B p l.flatten -> At B (p + m * j) x := by
 induction l with
 | nil => exact fun O e => none_no (List.getElem?_nil.symm.trans e)
 | cons y l ih =>
  exact fun {p j x} hm => j.rec (fun h ha => Option.some.inj h ▸ At.left (b := l.flatten) ha) fun j O h ha => by
   have := ih (j := j) (fun x hx => hm x (.tail _ hx)) h (At.right (a := y) (b := l.flatten) ha)
   rwa [hm y (.head _), Nat.add_assoc, Nat.add_comm m, <- Nat.mul_succ] at this
theorem flat_len {m : Nat} {l : List (List Int)} : (∀ x ∈ l, x.length = m) -> l.flatten.length = m * l.length := by
 induction l with
 | nil => exact fun O => rfl
 | cons y l ih => exact fun h => by rw [List.flatten_cons, List.length_append, h y (.head _), ih fun x hx => h x (.tail _ hx), List.length_cons, Nat.mul_succ, Nat.add_comm]
inductive PI (A : RA) (B : Array UInt8) (R : Ro) (q1 : PSt) (kv : List (Int × W)) (pe : Nat) (last : Int) (cs : W) : Nat -> LW -> LW -> Hl -> Prop
 | mk {bs d kv' : List (Int × W)} {b : List Int} {q : PSt} {o : Int} {r : List Int} {p : Nat} (hr : Reads kv' b q q1 d) (hk : kv' ++ d = kv) (e : b ++ [140] = o :: r) (ha : At B p r) (hp : p + r.length = pe) :
  PI A B R q1 kv pe last cs b.length (.s (.int last) (.s (.ref A.kn) (.s (.ref A.f.fo) (.s cs (.s (.ref A.ps) (.s (.int o) .nil)))))) (.s (.ref A.st) .nil) (hR A B p q kv' R)
section
variable {X : Wd} (hX : Good X) {R : Ro} {K : W -> Hl -> Prop} {A : RA} {B : Array UInt8} {p : Nat} {q : PSt} {kv : List (Int × W)}
include hX
theorem page_new {l : Hl} (h : ∀ ps pd sk rw, K (.ref ps) (.c rw (.list []) (.c sk (.list []) (.c ps (psC { A with pd := pd, sk := sk, rw := rw } q0) l)))) : WC2 X 351 [] l K := by
 refine wc_mk (mk351 hX) rfl rfl fun ps pd => en327 hX fun κ => ?_
 fail "w"
 refine .new fun sk => ?_
 fail "w"
 refine .new fun rw => ?_
 fail "w"
 exact ⟨rfl, h ps pd sk rw⟩
theorem read_page_s {d : List (Int × W)} {bl bs : List Int} {last : Int} {q1 : PSt} {cb : List (List Int)} (lc : cb.length = 10) (lc4 : ∀ x ∈ cb, x.length = 4) (ll : bl.length = 4) (hl : seV 4 bl = last) (ha : At B p (cb.flatten ++ (bl ++ (bs ++ [140])))) (hB : B.size <= 10000000) (hr : Reads kv bs q0 q1 d) (hq : q1.stack = [])
  (h : ∀ ps pd sk rw, K (.tup [.tup ((cb.map (seV 4)).map .int), .ref ps]) (hR { A with ps := ps, pd := pd, sk := sk, rw := rw } B (p + 45 + bs.length) q1 (kv ++ d) R)) : WC2 X 442 [.ref A.st, .int last, .ref A.kn, .ref A.f.fo] (hK A B p kv R) K := by
 have hfl := flat_len lc4
 rw [lc] at hfl
 have h40 := ha.right
 rw [hfl] at h40
 have h44 := h40.right
 rw [ll] at h44
 refine en442 hX fun κ => ?_
 fail "w"
 refine lc_i (fun r d l' => ∃ j : Nat, j <= 10 /\ r = rgW (j : Int) 1 (10 - j) /\ d = ((cb.take j).map (seV 4)).map .int /\ l' = hK A B (p + 4 * j) kv R) (rg_up (k := 10) rfl (by decide) (by decide)) ⟨0, by decide, rfl, rfl, rfl⟩ ?_ ?_
 rotate_left
 ·rintro v r d _ ⟨j, hj, hrm, rfl, rfl⟩
  cases k : 10 - j with
  | zero => rw [k] at hrm; cases hrm
  | succ m =>
   rw [k] at hrm
   cases hrm
   obtain ⟨x, hx⟩ : ∃ x, cb[j]? = some x := ⟨cb[j], List.getElem?_eq_getElem (by lia)⟩
   refine ⟨by rw [List.length_map, List.length_map, List.length_take]; lia, fun env => ?_⟩
   fail "w"
   refine signed_s hX (n := 3) rfl (ha.left.flat lc4 hx) (lc4 x (List.mem_of_getElem? hx)) rfl (by decide) hB ?_
   fail "w"
   refine ⟨j + 1, by lia, by rw [show 10 - (j + 1) = m by lia]; rfl, ?_, ?_⟩
   ·rw [List.take_add_one, hx, List.map_append, List.map_append]; rfl
   ·rw [Nat.mul_succ, <- Nat.add_assoc]; rfl
 rintro d _ ⟨j, hj, hrm, rfl, rfl⟩
 have hj : j = 10 := by
  cases k : 10 - j with
  | zero => lia
  | succ m => rw [k] at hrm; cases hrm
 subst hj
 rw [List.take_of_length_le (Nat.le_of_eq lc)]
 refine .inr ⟨_, rfl, ?_⟩
 have hz : ((cb.map (seV 4)).map W.int).length <= 10000000 := by rw [List.length_map, List.length_map, lc]; decide
 fail "w"
 refine signed_s hX (n := 3) rfl h40.left ll rfl (by decide) hB ?_
 rw [hl]
 fail "w"
 refine page_new hX (A := A) fun ps pd sk rw => ?_
 fail "w"
 have hb : ∃ o r, bs ++ [140] = o :: r := by induction bs with | nil => exact ⟨_, _, rfl⟩ | cons a b => exact ⟨_, _, rfl⟩
 obtain ⟨o, r, hor⟩ := hb
 rw [hor] at h44
 refine number_s hX (n := 6) rfl (At.left (a := [o]) (b := r) h44) rfl rfl hB ?_
 rw [beV_one]
 fail "w"
 refine whl_i (PI { A with ps := ps, pd := pd, sk := sk, rw := rw } B R q1 (kv ++ d) (p + 45 + bs.length) last (.tup ((cb.map (seV 4)).map .int))) bs.length ?_ ?_
 ·exact .mk (bs := kv) hr rfl hor (At.right (a := [o]) (b := r) h44) (by have := congrArg List.length hor; rw [List.length_append] at this; simp only [List.length_cons, List.length_nil] at this ⊢; lia)
 ·intro k L C l i
  set_option tactic.hygienic true in obtain ⟨hr, hk, e, ha, hp⟩ := i
  rename_i kv' b q o r p'
  induction hr using Reads.casesOn with
  | @nil kv' q1 =>
   cases e
   rw [List.append_nil] at hk
   have hq0 : q1.stack.length = 0 := by rw [hq]; rfl
   fail "w"
   fail "w"
   fail "w"
   rw [<- hp, <- hk] at h
   exact h ps pd sk rw
  | @cons kv' o' r' bs' q q2 q1 d1 d2 s t =>
   simp only [List.cons_append, List.append_assoc] at e
   refine cps fun G0 z0 => ?_
   cases e
   refine z0 ?_
   clear z0
   have op := s.op
   fail "w"
   refine step_s hX (A := { A with ps := ps, pd := pd, sk := sk, rw := rw }) s ha.left hB ?_
   fail "w"
   have hb : ∃ o r, bs' ++ [140] = o :: r := by induction bs' with | nil => exact ⟨_, _, rfl⟩ | cons a b => exact ⟨_, _, rfl⟩
   obtain ⟨o3, r3, hor3⟩ := hb
   have h5 := ha.right
   rw [hor3] at h5
   refine number_s hX (n := 6) rfl (At.left (a := [o3]) (b := r3) h5) rfl rfl hB ?_
   simp only [beV_one]
   fail "w"
   refine WQ.next [] Sub.rfl ⟨?_, .mk (bs := kv) t (by rw [<- hk, List.append_assoc]) hor3 (At.right (a := [o3]) (b := r3) h5) ?_⟩
   ·rw [List.length_cons, List.length_append]; lia
   ·have := congrArg List.length hor3
    simp only [<- hp, List.length_append, this]
    simp only [List.length_cons, List.length_nil]
    lia
end
end
section
noncomputable def W.sc (f : List W -> Bool) : W -> Bool
 | .tup ws => f ws
 | .ref _ => false
 | .il _ => false
 | .lst _ => false
 | .rng _ _ _ => false
 | _ => true
noncomputable def W.pl : Nat -> W -> Bool
 | 0, w => w.sc fun O => false
 | d + 1, w => w.sc fun ws => ws.all (W.pl d)
noncomputable def Ok1 (d : Nat) (w : W) : Prop := ∃ v : V, v.flat = true /\ v.dep <= d /\ ∀ F x, RV F w x -> x = v
theorem pl_sc {d : Nat} {f : List W -> Bool} {w : W} : w.sc f = true -> (∀ ws, f ws = true -> Ok1 d (.tup ws)) -> Ok1 d w := by
 cases w with
 | tup ws => exact fun h k => k ws h
 | ref => exact fun h => ff_no h
 | il => exact fun h => ff_no h
 | lst => exact fun h => ff_no h
 | rng => exact fun h => ff_no h
 | _ => exact fun O O => ⟨_, rfl, Nat.zero_le _, fun O O => id⟩
theorem pl_v {d : Nat} : ∀ {w : W}, w.pl d = true -> Ok1 d w := by
 induction d with
 | zero => exact fun h => pl_sc h fun O z => ff_no z
 | succ d pl =>
  refine fun h => pl_sc h fun ws h => ?_
  have : ∃ vs, V.flats vs = true /\ V.deps vs <= d /\ ∀ F xs, RVs F ws xs -> xs = vs := by
   induction ws with
   | nil => exact ⟨[], rfl, Nat.zero_le _, fun O O h => h⟩
   | cons w ws ih => exact (pl (Bool.and_eq_true_iff.mp h).1).elim fun v a => (ih (Bool.and_eq_true_iff.mp h).2).elim fun vs b => ⟨v :: vs, Bool.and_eq_true_iff.mpr ⟨a.1, b.1⟩, Nat.max_le.mpr ⟨a.2.1, b.2.1⟩, fun F xs q => q.elim fun x q => q.elim fun r q => q.1.trans (congr (congrArg List.cons (a.2.2 F x q.2.1)) (b.2.2 F r q.2.2))⟩
  exact this.elim fun vs a => ⟨.tup vs, a.1, Nat.succ_le_succ a.2.1, fun F x q => q.elim fun r q => q.1.trans (congrArg V.tup (a.2.2 F r q.2))⟩
theorem neT {X : Wd} {l : Hl} {ws : List W} (h : (W.tup ws).pl 700 = true) : EqP X false (.tup ws) (.tup ws) l false := fun n F H va vb Q ra rb rh q => by
 obtain ⟨v, a, b, c⟩ := pl_v h
 cases c _ _ rb
 cases c _ _ ra
 obtain ⟨vs, rfl, _⟩ := ra
 exact cmp_neT a (Nat.le_trans (Nat.le_succ _) b) q
inductive Post (kv : List (Int × W)) : List (Int × W) -> List Int -> List (Int × W) -> Prop
 | nil {t} : Post kv t [] t
 | nop {t bs t'} (h : Post kv t bs t') : Post kv t (138 :: bs) t'
 | fdef {t r bs t'} {k : Nat} {nr : Int} {row : W} (hd : FRest k nr row r) (h1 : lkG t nr = none) (h2 : lkG kv nr = some row) (h : Post kv (t ++ [(nr, row)]) bs t') : Post kv t ((242 + (k : Int)) :: (r ++ bs)) t'
theorem FRest.row {k : Nat} {nr : Int} {row : W} {bs : List Int} (h : FRest k nr row bs) : ∃ ws, row = .tup ws /\ (W.tup ws).pl 700 = true := by
 induction h
 exact ⟨_, rfl, rfl⟩
theorem Post.len {kv t t' bs} (h : Post kv t bs t') : t.length <= t'.length := by
 induction h with
 | nil => exact Nat.le_refl _
 | nop _ ih => exact ih
 | fdef _ _ _ _ ih => rw [List.length_append] at ih; exact Nat.le_trans (Nat.le_add_right _ _) ih
theorem At.next {B : Array UInt8} {p : Nat} {a b : List Int} {x : Int} (h : At B p (a ++ x :: b)) : ∃ o r, a ++ x :: b = o :: r /\ At B p [o] /\ At B (p + 1) r /\ r.length = a.length + b.length := by
 induction a with
 | nil => exact ⟨x, b, rfl, At.left (a := [x]) (b := b) h, At.right (a := [x]) (b := b) h, (Nat.zero_add _).symm⟩
 | cons y a => exact ⟨y, a ++ x :: b, rfl, At.left (a := [y]) (b := a ++ x :: b) h, At.right (a := [y]) (b := a ++ x :: b) h, by simp only [List.length_append, List.length_cons, List.length_cons]; lia⟩
inductive PoI (A : RA) (B : Array UInt8) (R : Ro) (kv t : List (Int × W)) (td : Addr) (pe : Nat) : Nat -> LW -> LW -> Hl -> Prop
 | mk {tv : List (Int × W)} {bs r : List Int} {o : Int} {p : Nat} (hr : Post kv tv bs t) (e : bs ++ [249] = o :: r) (ha : At B p r) (hp : p + r.length = pe) :
  PoI A B R kv t td pe bs.length (.s (.ref A.st) (.s (.ref A.kn) (.s (.ref A.f.fo) (.s (.ref td) (.s (.int o) (.o (.o .nil))))))) .nil (.c td (.dict tv) (hK A B p kv R))
section
variable {X : Wd} (hX : Good X) {R : Ro} {K : W -> Hl -> Prop} {A : RA} {B : Array UInt8} {p : Nat} {kv : List (Int × W)}
include hX
theorem post_s {bs : List Int} {t : List (Int × W)} (ha : At B p (bs ++ [249])) (hB : B.size <= 10000000) (hr : Post kv [] bs t) (hl : t.length = kv.length) (hk : kv.length <= 10000000)
  (h : ∀ td, K .none (.c td (.dict t) (hK A B (p + bs.length + 1) kv R))) : WC2 X 449 [.ref A.st, .ref A.kn, .ref A.f.fo] (hK A B p kv R) K := by
 refine en449 hX fun κ => ?_
 fail "w"
 intro td
 fail "w"
 refine cps fun G0 z0 => ?_
 obtain ⟨o, r, e, h1, h2, hn⟩ := ha.next
 refine z0 ?_
 clear z0
 refine number_s hX (n := 4) rfl h1 rfl rfl hB ?_
 rw [beV_one]
 fail "w"
 refine whl_i (PoI A B R kv t td (p + bs.length + 1)) bs.length (.mk hr e h2 (by rw [hn]; show p + 1 + (_ + 0) = _; lia)) ?_
 intro k L C l i
 set_option tactic.hygienic true in obtain ⟨hr, e, ha, hp⟩ := i
 rename_i tv bs' r' o' p'
 cases hr with
 | nil =>
  cases e
  fail "w"
  fail "w"
  rw [show p' = p + bs.length + 1 from hp]
  exact h td
 | @nop _ bs' _ hr =>
  cases e
  fail "w"
  refine is_fd_s hX ?_
  fail "w"
  refine cps fun G0 z0 => ?_
  obtain ⟨o3, r3, e3, h3, h4, hn⟩ := At.next (a := bs') ha
  refine z0 ?_
  clear z0
  refine number_s hX (n := 4) rfl h3 rfl rfl hB ?_
  rw [beV_one]
  fail "w"
  exact .next [] Sub.rfl ⟨Nat.lt_succ_self _, .mk hr e3 h4 (by rw [hn]; rw [show (bs'.append [249]).length = _ from List.length_append] at hp; exact (Nat.add_right_comm _ _ _).trans hp)⟩
 | @fdef _ r' bs' _ k nr row hd h1 h2 hr =>
  simp only [List.cons_append, List.append_assoc] at e
  cases e
  have k4 := hd.k4
  fail "w"
  refine is_fd_s hX ?_
  rw [decide_eq_true (show 243 <= 242 + (k : Int) by lia), decide_eq_true (show 242 + (k : Int) < 247 by lia)]
  fail "w"
  refine font_s hX (n := 4) (i := 5) (A := A.f) rfl ⟨fun O => rfl, ⟨6, fun O => rfl⟩, 8, fun O => rfl⟩ hd ha.left rfl hB ?_
  fail "w"
  refine inF h1 ?_
  fail "w"
  refine gtS h2 ?_
  fail "w"
  obtain ⟨ws, rfl, hpl⟩ := hd.row
  refine ⟨_, neT hpl, ?_⟩
  have hlt := hr.len
  rw [List.length_append, List.length_singleton] at hlt
  fail "w"
  rw [putG_new h1]
  refine cps fun G0 z0 => ?_
  obtain ⟨o3, r3, e3, h3, h4, hn⟩ := At.next (a := bs') ha.right
  refine z0 ?_
  clear z0
  refine number_s hX (n := 4) rfl h3 rfl rfl hB ?_
  rw [beV_one]
  fail "w"
  refine .next [5, 6] Sub.rfl ⟨?_, .mk hr e3 h4 ?_⟩
  ·rw [List.length_cons, List.length_append]; lia
  ·rw [List.length_append, List.length_append] at hp
   rw [hn, <- hp]
   show p' + r'.length + 1 + (_ + 0) = _ + (_ + (_ + 1))
   lia
end
end
section
noncomputable def devC (pg kn dd : Addr) (u c : W) (t w d : Int) : C2 := .obj 372 dd [(25, u), (26, c), (27, .ref pg), (28, .ref kn), (29, .int t), (30, .int w), (23, .int d)]
theorem At.cut {B : Array UInt8} {p n : Nat} {a b : List Int} (h : At B p (a ++ b)) (e : a.length = n) : At B p a /\ At B (p + n) b := ⟨h.left, e ▸ h.right⟩
noncomputable abbrev unW (a b c : List Int) : W := .tup [.int (seV 4 a), .int (seV 4 b), .int (seV 4 c)]
theorem lc_none {w : W} {l : Hl} {K : W -> Hl -> Prop} {body} {ws : List W} (i : Its w l ws l) (hs : ∀ v (Q' : Qt), v ∈ ws -> (∀ L C, Q' .cont L C l) -> body Q' v l) (he : K (.il []) l) : LcP w l (fun d l => Fro d l K) body :=
 lc_i (fun r d l' => l' = l /\ d = [] /\ ∀ v ∈ r, v ∈ ws) i ⟨rfl, rfl, fun O h => h⟩ (fun O O q0 => q0.elim fun e q1 => q1.elim fun d O => .inr ⟨[], d, e ▸ he⟩) fun v r O O q0 => q0.elim fun e q1 => q1.elim fun d h => by
  subst e d
  exact ⟨Nat.zero_le _, hs v _ (h v (.head _)) fun O O => .cont ⟨rfl, rfl, fun v hv => h v (.tail _ hv)⟩⟩
inductive PostOK (u1 u2 u3 : List Int) (kv : List (Int × W)) (np : Nat) (deep last : Int) (pe : Nat) : Int -> Int -> List Int -> Prop
 | mk {t : List (Int × W)} {bl tb wb sb nb pf eb : List Int} {m : Nat} (ll : bl.length = 4) (lt : tb.length = 4) (lw : wb.length = 4) (ls : sb.length = 2) (ln : nb.length = 2) (le : eb.length = 4) (hm : 4 <= m)
  (hl : seV 4 bl = last) (hsb : deep <= beV sb) (hnb : beV nb = (np : Int) % 65536) (heb : beV eb = (pe : Int)) (hr : Post kv [] pf t) (htl : t.length = kv.length) :
  PostOK u1 u2 u3 kv np deep last pe (seV 4 tb) (seV 4 wb) (bl ++ ((u1 ++ (u2 ++ u3)) ++ (tb ++ (wb ++ (sb ++ (nb ++ (pf ++ ([249] ++ (eb ++ ([2] ++ List.replicate m 223))))))))))
section
variable {X : Wd} (hX : Good X) {R : Hl} {K : W -> Hl -> Prop} {A : RA} {B : Array UInt8} {p : Nat} {kv : List (Int × W)}
include hX
theorem postamble_s {u1 u2 u3 pm : List Int} {dd : Addr} {c : W} {t0 w0 deep last tl wl : Int} {pgs : List W} (ha : At B (p + 1) pm) (hsz : B.size = p + 1 + pm.length) (hB : B.size <= 10000000) (lu1 : u1.length = 4) (lu2 : u2.length = 4) (lu3 : u3.length = 4) (h1 : 0 < seV 4 u1 /\ 0 < seV 4 u2 /\ 0 < seV 4 u3)
  (hp : PostOK u1 u2 u3 kv pgs.length deep last p tl wl pm) (hpl : pgs.length <= 10000000) (hk : kv.length <= 10000000)
  (h : ∀ td t p', K .none (.c td (.dict t) (hK A B p' kv ⟨.list pgs, devC A.pg A.kn dd (unW u1 u2 u3) c tl wl deep, R⟩))) : WC2 X 454 [.ref A.st, .ref A.dv, .int last, .ref A.f.fo] (hK A B (p + 1) kv ⟨.list pgs, devC A.pg A.kn dd (unW u1 u2 u3) c t0 w0 deep, R⟩) K := by
 refine cps fun G0 z0 => ?_
 set_option tactic.hygienic true in obtain ⟨ll, lt, lw, ls, ln, le, hm, hl, hsb, hnb, heb, hr, htl⟩ := hp
 rename_i t bl tb wb sb nb pf eb m
 obtain ⟨b0, ha⟩ := ha.cut ll
 obtain ⟨b1, ha⟩ := ha.cut (n := 12) (by simp only [List.length_append, List.length_append, lu1, lu2, lu3])
 obtain ⟨b2, ha⟩ := ha.cut lt
 obtain ⟨b3, ha⟩ := ha.cut lw
 obtain ⟨b4, ha⟩ := ha.cut ls
 obtain ⟨b5, ha⟩ := ha.cut ln
 rw [<- List.append_assoc pf] at ha
 obtain ⟨b6, ha⟩ := ha.cut (n := pf.length + 1) List.length_append
 obtain ⟨b7, ha⟩ := ha.cut le
 refine z0 ?_
 clear z0
 have b8 := ha.left
 simp only [List.length_append, List.length_cons, List.length_nil, List.length_replicate, ll, lu1, lu2, lu3, lt, lw, ls, ln, le] at hsz
 refine en454 hX fun κ => ?_
 fail "w"
 refine signed_s hX (n := 3) rfl b0 ll rfl (by decide) hB ?_
 rw [hl]
 fail "w"
 refine units_s hX (n := 3) rfl b1 lu1 lu2 lu3 hB h1 ?_
 fail "w"
 refine ⟨_, neT rfl, ?_⟩
 fail "w"
 refine signed_s hX (n := 3) rfl b2 lt rfl (by decide) hB ?_
 fail "w"
 refine signed_s hX (n := 3) rfl b3 lw rfl (by decide) hB ?_
 fail "w"
 refine number_s hX (n := 3) rfl b4 ls rfl hB ?_
 fail "w"
 refine number_s hX (n := 3) rfl b5 ln rfl hB ?_
 fail "w"
 refine post_s hX (A := A) (R := ⟨.list pgs, devC A.pg A.kn dd (unW u1 u2 u3) c (seV 4 tb) (seV 4 wb) deep, R⟩) b6 hB hr htl hk fun td => ?_
 fail "w"
 refine number_s hX (n := 4) rfl b7 le rfl hB ?_
 fail "w"
 refine number_s hX (n := 4) rfl b8 rfl rfl hB ?_
 rw [beV_one]
 fail "w"
 have ho : octs (pickB B (p + 1 + 4 + 12 + 4 + 4 + 2 + 2 + (pf.length + 1) + 4 + 1) (p + 1 + 4 + 12 + 4 + 4 + 2 + 2 + (pf.length + 1) + 4 + 1 + m)) = List.replicate m 223 := by
  have := ha.right.t
  rw [List.length_replicate] at this
  rw [octs_pick, Nat.add_sub_cancel_left]
  exact this
 have hl1 := congrArg List.length ho
 rw [octs_len, List.length_replicate] at hl1
 refine taken_s hX (n := 4) (k := m) rfl ?_ ?_ hB ?_
 ·rw [hsz, List.length_singleton]; push_cast; lia
 ·rw [hsz, List.length_singleton]; lia
 revert ho hl1
 generalize pickB B _ _ = b
 intro ho hl1
 fail "w"
 refine lc_none (ws := List.replicate m (.int 223)) (.inl ⟨by show _ = (octs b).map _; rw [ho, List.map_replicate], rfl⟩) (fun v Q' hv k env => ?_) ?_
 ·cases List.eq_of_mem_replicate hv
  fail "w"
  exact k _ _
 fail "w"
 refine ⟨_, ne_nil' rfl, ?_⟩
 fail "w"
 exact h _ _ _
end
end
section
noncomputable abbrev pgW (cb : List (List Int)) (q : PSt) : W := .tup [.tup ((cb.map (seV 4)).map .int), .tup q.rows]
inductive Body : Nat -> Int -> List (Int × W) -> List W -> Int -> List Int -> Int -> List (Int × W) -> List W -> Int -> Prop
 | nil {pos last kv pgs deep} : Body pos last kv pgs deep [] last kv pgs deep
 | nop {pos last kv pgs deep bs l k p d} (h : Body (pos + 1) last kv pgs deep bs l k p d) : Body pos last kv pgs deep (138 :: bs) l k p d
 | fdef {pos last kv pgs deep bs l k p d} {r : List Int} {j : Nat} {nr : Int} {row : W} (hd : FRest j nr row r) (hk : lkG kv nr = none) (hl : kv.length <= 1000) (h : Body (pos + 1 + r.length) last (kv ++ [(nr, row)]) pgs deep bs l k p d) : Body pos last kv pgs deep ((242 + (j : Int)) :: (r ++ bs)) l k p d
 | page {pos last kv pgs deep bs l k p d} {cb : List (List Int)} {bl body : List Int} {q1 : PSt} {dd : List (Int × W)} (lc : cb.length = 10) (lc4 : ∀ x ∈ cb, x.length = 4) (ll : bl.length = 4) (hl : seV 4 bl = last) (hr : Reads kv body q0 q1 dd) (hq : q1.stack = []) (hrw : q1.rows.length <= 1000000) (hp : pgs.length <= 1000)
   (h : Body (pos + 46 + body.length) pos (kv ++ dd) (pgs ++ [pgW cb q1]) (max deep q1.deepest) bs l k p d) : Body pos last kv pgs deep (139 :: (cb.flatten ++ (bl ++ (body ++ (140 :: bs))))) l k p d
theorem Sub.tail {a : Addr} {x : C2} {r l : Hl} (s : Sub r l) : Sub (.c a x r) l :=
 let ⟨t, p⟩ := s
 ⟨(a, x) :: t, (p.cons _).trans List.perm_middle.symm⟩
inductive FiI (A : RA) (B : Array UInt8) (R : Hl) (u c : W) (dd : Addr) (many last : Int) (kv : List (Int × W)) (pgs : List W) (deep : Int) (pm : List Int) (pe : Nat) : Nat -> LW -> LW -> Hl -> Prop
 | mk {pos : Nat} {ls : Int} {kv' : List (Int × W)} {pgs' : List W} {dp : Int} {bs r : List Int} {o : Int} (hb : Body pos ls kv' pgs' dp bs last kv pgs deep) (e : bs ++ 248 :: pm = o :: r) (ha : At B (pos + 1) r) (hp : pos + bs.length = pe) :
  FiI A B R u c dd many last kv pgs deep pm pe bs.length (.s (.bytes B) (.s (.ref A.f.fo) (.s (.ref A.st) (.s u (.s (.int many) (.s (.ref A.dv) (.s (.int ls) (.s (.int o) (.o (.o (.o .nil))))))))))) .nil (hK A B (pos + 1) kv' ⟨.list pgs', devC A.pg A.kn dd u c 0 0 dp, R⟩)
theorem RA.of {Q : FA -> Prop} {P : Addr -> Addr -> Addr -> Addr -> Addr -> FA -> Prop} (k : ∀ A : RA, Q A.f -> P A.st A.sd A.kn A.pg A.dv A.f) : ∀ F, Q F -> ∀ st sd kn pg dv, P st sd kn pg dv F := fun F h st sd kn pg dv => k ⟨st, sd, 0, 0, 0, 0, kn, pg, dv, F⟩ h
section
variable {X : Wd} (hX : Good X) {l R : Hl} {K : W -> Hl -> Prop} {B : Array UInt8} {F : FA}
include hX
theorem stream_new (h : ∀ st sd, K (.ref st) (.c st (stC sd B 0) l)) : WC2 X 309 [.bytes B] l K := by
 refine wc_mk (mk309 hX) rfl rfl fun st sd => en285 hX fun κ => ?_
 fail "w"
 exact ⟨rfl, h st sd⟩
theorem device_new {u c : W} (h : ∀ kn pg dv dd, K (.ref dv) (.c kn (.dict []) (.c pg (.list []) (.c dv (devC pg kn dd u c 0 0 0) l)))) : WC2 X 372 [u, c] l K := by
 refine wc_mk (mk372 hX) rfl rfl fun dv dd => en369 hX fun κ => ?_
 fail "w"
 refine .new fun pg => ?_
 fail "w"
 intro kn
 fail "w"
 exact ⟨rfl, h kn pg dv dd⟩
theorem file_s {cb : Array UInt8} {u1 u2 u3 bs pm : List Int} {cl last deep tl wl : Int} {kv : List (Int × W)} {pgs : List W} (lu1 : u1.length = 4) (lu2 : u2.length = 4) (lu3 : u3.length = 4) (hu : 0 < seV 4 u1 /\ 0 < seV 4 u2 /\ 0 < seV 4 u3) (hcl : cl = (cb.size : Int))
  (hb : Body (15 + cb.size) (-1) [] [] 0 bs last kv pgs deep) (hpo : PostOK u1 u2 u3 kv pgs.length deep last (15 + cb.size + bs.length) tl wl pm)
  (ho : octs B = [247, 2] ++ ((u1 ++ (u2 ++ u3)) ++ ([cl] ++ (octs cb ++ (bs ++ (248 :: pm)))))) (hpl : pgs.length <= 1000) (hk : kv.length <= 10000000) (hB : B.size <= 10000000)
  (h : ∀ (A : RA) dd td t p', A.f = F -> K (.ref A.dv) (.c td (.dict t) (hK A B p' kv ⟨.list pgs, devC A.pg A.kn dd (unW u1 u2 u3) (.bytes cb) tl wl deep, R⟩))) : WC2 X 461 [.bytes B, .ref F.fo] (hF F R) K := by
 have hA : At B 0 ([247] ++ ([2] ++ ((u1 ++ (u2 ++ u3)) ++ ([cl] ++ (octs cb ++ (bs ++ (248 :: pm))))))) := by
  have : octs B = [247] ++ ([2] ++ ((u1 ++ (u2 ++ u3)) ++ ([cl] ++ (octs cb ++ (bs ++ (248 :: pm)))))) := ho
  exact ⟨by rw [<- this, List.drop_zero, List.take_length], by rw [<- this, octs_len]; lia⟩
 have hsz := congrArg List.length ho
 simp only [octs_len, List.length_append, List.length_cons, List.length_nil, lu1, lu2, lu3] at hsz
 refine cps fun G0 z0 => ?_
 obtain ⟨b0, hA⟩ := hA.cut (n := 1) rfl
 obtain ⟨b1, hA⟩ := hA.cut (n := 1) rfl
 obtain ⟨b2, hA⟩ := hA.cut (n := 12) (by simp only [List.length_append, List.length_append, lu1, lu2, lu3])
 obtain ⟨b3, hA⟩ := hA.cut (n := 1) rfl
 obtain ⟨b4, hA⟩ := hA.cut (octs_len cb)
 refine z0 ?_
 clear z0
 refine en461 hX fun κ => ?_
 fail "w"
 refine stream_new hX fun st sd => ?_
 fail "w"
 refine number_s hX (n := 0) (m := 1) rfl b0 rfl rfl hB ?_
 rw [beV_one]
 fail "w"
 refine number_s hX (n := 0) (m := 1) rfl b1 rfl rfl hB ?_
 rw [beV_one]
 fail "w"
 refine units_s hX (n := 0) rfl b2 lu1 lu2 lu3 hB hu ?_
 fail "w"
 refine number_s hX (n := 0) (m := 1) rfl b3 rfl rfl hB ?_
 rw [beV_one]
 fail "w"
 refine taken_s hX (n := 0) (k := cb.size) rfl hcl (by lia) hB ?_
 have : pickB B (0 + 1 + 1 + 12 + 1) (0 + 1 + 1 + 12 + 1 + cb.size) = cb := by
  refine octs_inj ?_
  have := b4.t
  rw [octs_len] at this
  rw [octs_pick, Nat.add_sub_cancel_left]
  exact this
 rw [this]
 fail "w"
 refine device_new hX fun kn pg dv dd => ?_
 revert st sd kn pg dv
 revert h F
 apply RA.of
 intro A h
 fail "w"
 have hA : At B (15 + cb.size) (bs ++ 248 :: pm) := hA
 refine cps fun G0 z0 => ?_
 obtain ⟨o, r, e, b5, b6, hn⟩ := hA.next
 refine z0 ?_
 clear z0
 refine number_s hX (n := 3) (m := 1) rfl b5 rfl rfl hB ?_
 simp only [beV_one]
 fail "w"
 refine whl_i (FiI A B R (unW u1 u2 u3) (.bytes cb) dd cl last kv pgs deep pm (15 + cb.size + bs.length)) bs.length (.mk hb e b6 rfl) ?_
 intro k L C l i
 obtain ⟨hb, e, ha, hp⟩ := i
 rename_i pos ls kv' pgs' dp bs' r' o'
 induction hb using Body.casesOn with
 | @nil pos last kv pgs deep =>
  refine cps fun G0 z0 => ?_
  cases e
  refine z0 ?_
  clear z0
  fail "w"
  fail "w"
  refine postamble_s hX (A := A) ha (hsz.trans (by rw [List.length_nil] at hp; lia)) hB lu1 lu2 lu3 hu ((show 15 + cb.size + bs.length = pos from hp.symm) ▸ hpo) (Nat.le_trans hpl (by decide)) hk fun td t p' => ?_
  fail "w"
  exact h A dd td t p' rfl
 | @nop pos ls kv' pgs' dp bs' _ _ _ _ hb' =>
  cases e
  fail "w"
  refine is_fd_s hX ?_
  fail "w"
  refine cps fun G0 z0 => ?_
  obtain ⟨o3, r3, e3, h3, h4, hn⟩ := At.next (a := bs') ha
  refine z0 ?_
  clear z0
  refine number_s hX (n := 3) (m := 1) rfl h3 rfl rfl hB ?_
  rw [beV_one]
  fail "w"
  exact .next [8] Sub.rfl ⟨Nat.lt_succ_self _, .mk hb' e3 h4 (by rw [<- hp]; show _ = pos + (_ + 1); lia)⟩
 | @fdef pos ls kv' pgs' dp bs' _ _ _ _ r' k nr row hd hk' hl hb' =>
  simp only [List.cons_append, List.append_assoc] at e
  cases e
  have k4 := hd.k4
  fail "w"
  refine is_fd_s hX ?_
  rw [decide_eq_true (show 243 <= 242 + (k : Int) by lia), decide_eq_true (show 242 + (k : Int) < 247 by lia)]
  fail "w"
  refine add_s hX (n := 3) (i := 4) (j := 0) (A := A.f) rfl ⟨fun O => rfl, ⟨5, fun O => rfl⟩, 7, fun O => rfl⟩ (fun O => rfl) hd ha.left rfl hB hk' hl ?_
  fail "w"
  refine cps fun G0 z0 => ?_
  obtain ⟨o3, r3, e3, h3, h4, hn⟩ := At.next (a := bs') ha.right
  refine z0 ?_
  clear z0
  refine number_s hX (n := 3) (m := 1) rfl h3 rfl rfl hB ?_
  rw [beV_one]
  fail "w"
  refine .next [8] Sub.rfl ⟨?_, .mk hb' e3 h4 ?_⟩
  ·rw [List.length_cons, List.length_append]; lia
  ·rw [<- hp, List.length_cons, List.length_append]; lia
 | @page pos ls kv' pgs' dp bs' _ _ _ _ cb2 bl body q1 d2 lc lc4 ll hl hr hq hrw hp2 hb' =>
  rw [List.cons_append, List.append_assoc] at e
  cases e
  have hf := flat_len lc4
  rw [lc] at hf
  have ha2 : At B (pos + 1) ((cb2.flatten ++ (bl ++ (body ++ [140]))) ++ (bs' ++ 248 :: pm)) := by simpa only [List.append_assoc, List.cons_append, List.nil_append] using ha
  fail "w"
  refine read_page_s hX lc lc4 ll hl ha2.left hB hr hq fun ps pd sk rw => ?_
  rw [show ((pos + 1 : Nat) : Int) - 1 = (pos : Int) by lia]
  fail "w"
  have h5 := (ha2.cut (n := 45 + body.length) (by simp only [List.length_append, List.length_append, List.length_append, hf, ll, List.length_singleton]; lia)).2
  rw [<- Nat.add_assoc] at h5
  refine cps fun G0 z0 => ?_
  obtain ⟨o3, r3, e3, h3, h4, hn⟩ := h5.next
  refine z0 ?_
  clear z0
  refine number_s hX (n := 6) (m := 1) rfl h3 rfl rfl hB ?_
  simp only [beV_one]
  fail "w"
  simp only [List.length_cons, List.length_append, List.length_append, List.length_append, hf, ll, List.length_cons] at hp
  refine .next [8, 9, 10] (.tail (.tail (.tail .rfl))) ⟨?_, .mk hb' e3 h4 ?_⟩
  ·simp only [List.length_cons, List.length_append, List.length_append, List.length_append, List.length_cons]; lia
  ·rw [<- hp]; lia
end
end
section
inductive Told (B : Array UInt8) : W -> W -> List W -> List (Int × W) -> Int -> Int -> Int -> Prop
 | mk {cb : Array UInt8} {u1 u2 u3 bs pm : List Int} {cl last deep tl wl : Int} {kv : List (Int × W)} {pgs : List W} (lu1 : u1.length = 4) (lu2 : u2.length = 4) (lu3 : u3.length = 4) (hu : 0 < seV 4 u1 /\ 0 < seV 4 u2 /\ 0 < seV 4 u3) (hcl : cl = (cb.size : Int))
  (hb : Body (15 + cb.size) (-1) [] [] 0 bs last kv pgs deep) (hpo : PostOK u1 u2 u3 kv pgs.length deep last (15 + cb.size + bs.length) tl wl pm)
  (ho : octs B = [247, 2] ++ ((u1 ++ (u2 ++ u3)) ++ ([cl] ++ (octs cb ++ (bs ++ (248 :: pm)))))) (hpl : pgs.length <= 1000) (hk : kv.length <= 10000000) (hB : B.size <= 10000000) :
  Told B (unW u1 u2 u3) (.bytes cb) pgs kv tl wl deep
theorem Sub.cons {a : Addr} {x : C2} {r l : Hl} (s : Sub r l) : Sub (.c a x r) (.c a x l) :=
 let ⟨t, p⟩ := s
 ⟨t, p.cons _⟩
theorem said_s {X : Wd} (hX : Good X) {R : Hl} {K : W -> Hl -> Prop} {B : Array UInt8} {F : FA} {u c : W} {pgs : List W} {kv : List (Int × W)} {t w d : Int} (ht : Told B u c pgs kv t w d)
  (h : ∀ pg kn, K (.tup [u, c, .ref pg, .ref kn, .int t, .int w, .int d]) (.c kn (.dict kv) (.c pg (.list pgs) (hF F R)))) : WC2 X 577 [.bytes B, .ref F.fo] (hF F R) K := by
 refine cps fun G0 z0 => ?_
 obtain ⟨lu1, lu2, lu3, hu, hcl, hb, hpo, ho, hpl, hk, hB⟩ := ht
 refine z0 ?_
 clear z0
 refine .sub (en577 hX fun κ => ?_)
 fail "w"
 refine file_s hX lu1 lu2 lu3 hu hcl hb hpo ho hpl hk hB fun A dd td t p' e => ?_
 subst e
 fail "w"
 exact ⟨_, .tail (.cons (.cons (.tail (.tail .rfl)))), h _ _⟩
end
section
noncomputable def putB (v : Int) : Nat -> List Int
 | 0 => []
 | k + 1 => (v / 256 ^ k % 256) :: putB v k
theorem putB_c {v : Int} {k} : putB v (k + 1) = (v / 256 ^ k % 256) :: putB v k := rfl
theorem putB_len (v : Int) (k) : (putB v k).length = k := by
 induction k with
 | zero => rfl
 | succ k ih => exact congrArg (· + 1) ih
theorem putB_oct (v : Int) (k) : ∀ i ∈ putB v k, 0 <= i /\ i < 256 := by
 induction k with
 | zero => exact fun i h => nil_no h
 | succ k ih => exact fun i h => (List.mem_cons.mp h).elim (fun e => e ▸ ⟨by lia, by lia⟩) (ih i)
theorem beV_from (l : List Int) : ∀ a : Int, l.foldl (fun a b => 256 * a + b) a = a * 256 ^ l.length + beV l := by
 unfold beV
 induction l with
 | nil => intro a; simp
 | cons b l ih =>
  intro a
  rw [List.foldl_cons, List.foldl_cons, ih, ih (256 * 0 + b), List.length_cons, Int.pow_succ]
  have : (256 * a + b) * 256 ^ l.length = a * (256 ^ l.length * 256) + b * 256 ^ l.length := by
   rw [Int.add_mul]; congr 1; rw [Int.mul_comm 256 a, Int.mul_assoc, Int.mul_comm 256]
  rw [this]; simp only [Int.mul_zero, Int.zero_add]; lia
theorem beV_cons (a : Int) (l : List Int) : beV (a :: l) = a * 256 ^ l.length + beV l := by
 have := beV_from l a
 unfold beV at *
 simp only [List.foldl_cons, <- this]; simp
theorem emod_split (v : Int) (m : Int) (hm : 0 < m) : v % (m * 256) = v / m % 256 * m + v % m := by
 have h1 : v = m * (v / m) + v % m := (Int.mul_ediv_add_emod v m).symm
 have h2 : v / m = 256 * (v / m / 256) + v / m % 256 := (Int.mul_ediv_add_emod _ 256).symm
 have h3 : 0 <= v % m := Int.emod_nonneg _ (by lia)
 have h4 : v % m < m := Int.emod_lt_of_pos _ hm
 have h5 : 0 <= v / m % 256 := by lia
 have h6 : v / m % 256 < 256 := by lia
 generalize v / m / 256 = q at h2
 generalize v / m % 256 = r at *
 generalize v % m = s at *
 have e : v = (m * 256) * q + (r * m + s) := by
  rw [h1, h2, Int.mul_add, Int.mul_assoc, Int.mul_comm m r]; lia
 have b1 : r * m + s < m * 256 := by
  have : r * m <= 255 * m := Int.mul_le_mul_of_nonneg_right (by lia) (by lia)
  lia
 have b0 : 0 <= r * m + s := by
  have : 0 <= r * m := Int.mul_nonneg h5 (by lia)
  lia
 rw [e, Int.add_comm, Int.add_mul_emod_self_left, Int.emod_eq_of_lt b0 b1]
theorem beV_putB (v : Int) (k) : beV (putB v k) = v % 256 ^ k := by
 induction k with
 | zero => exact (Int.emod_one v).symm
 | succ k ih =>
  rw [putB_c, beV_cons, putB_len, ih, Int.pow_succ]
  exact (emod_split v _ (Int.pow_pos (by lia))).symm
theorem beV_put {v : Int} {k : Nat} (h0 : 0 <= v) (h1 : v < 256 ^ k) : beV (putB v k) = v := by
 rw [beV_putB, Int.emod_eq_of_lt h0 h1]
theorem pow256 : (256 : Int) ^ 0 = 1 /\ (256 : Int) ^ 1 = 256 /\ (256 : Int) ^ 2 = 65536 /\ (256 : Int) ^ 3 = 16777216 /\ (256 : Int) ^ 4 = 4294967296 := by decide
theorem seV_put {v : Int} {k : Nat} (h1 : 1 <= k) (h4 : k <= 4) (a : -(128 * 256 ^ (k - 1)) <= v) (b : v < 128 * 256 ^ (k - 1)) : seV k (putB v k) = v := by
 unfold seV
 rw [beV_putB]
 refine cps fun G0 z0 => ?_
 obtain ⟨p0, p1, p2, p3, p4⟩ := pow256
 refine z0 ?_
 clear z0
 have hk : k = 1 \/ k = 2 \/ k = 3 \/ k = 4 := by lia
 rcases hk with rfl | rfl | rfl | rfl <;> simp only [Nat.sub_self, Nat.reduceSub, p0, p1, p2, p3, p4] at * <;> split <;> lia
theorem seV_put4 {v : Int} (a : -2147483648 <= v) (b : v < 2147483648) : seV 4 (putB v 4) = v := seV_put (by lia) (by lia) (by simpa using a) (by simpa using b)
theorem octs_byteArr {l : List Int} (h : ∀ i ∈ l, 0 <= i /\ i < 256) : octs (byteArr l) = l := by
 unfold octs byteArr
 rw [List.map_map]
 induction l with
 | nil => rfl
 | cons i l ih =>
  have := h i (by simp)
  rw [List.map_cons, ih fun j hj => h j (by simp [hj])]
  congr 1
  simp only [Function.comp, Nat.toUInt8_eq, UInt8.toNat_ofNat']
  lia
end
section
structure Spot where
 h : Int
 v : Int
 w : Int
 x : Int
 y : Int
 z : Int
noncomputable abbrev Spot.l (s : Spot) : List Int := [s.h, s.v, s.w, s.x, s.y, s.z]
noncomputable def sp4 (s : Spot) : W := .tup [.int s.h, .int s.v, .int s.w, .int s.x, .int s.y, .int s.z]
structure PgS where
 a0 : Addr
 sp : Spot
 ss : List (Addr × Spot)
 rows : List W
 font : Int
 b4 : List Int
 b5 : List Int
 d4 : Int
 d5 : Int
noncomputable def fnt (f : Int) : Int := if f = 0 then -1 else f
noncomputable def qOf (s : PgS) (d : Int) : PSt := ⟨s.sp.h, s.sp.v, s.sp.w, s.sp.x, s.sp.y, s.sp.z, fnt s.font, d, s.ss.map fun p => sp4 p.2, s.rows⟩
structure SpB (k : Nat) (p : Spot) : Prop where
 h : -(k * 33554432) <= p.h /\ p.h <= k * 33554432
 v : -(k * 33554432) <= p.v /\ p.v <= k * 33554432
 w : -33554432 <= p.w /\ p.w <= 33554432
 x : -33554432 <= p.x /\ p.x <= 33554432
 y : -33554432 <= p.y /\ p.y <= 33554432
 z : -33554432 <= p.z /\ p.z <= 33554432
structure Bd (k : Nat) (s : PgS) : Prop where
 sp : SpB k s.sp
 ss : ∀ p ∈ s.ss, SpB k p.2
 sl : s.ss.length <= k
 rl : s.rows.length <= k
 l4 : s.b4.length <= 100 * k
 l5 : s.b5.length <= 100 * k
 d4 : 0 <= s.d4 /\ s.d4 <= k
 d5 : 0 <= s.d5 /\ s.d5 <= k + 1
 fl : s.rows.all (W.pl 1) = true
 o4 : ∀ i ∈ s.b4, 0 <= i /\ i < 256
 o5 : ∀ i ∈ s.b5, 0 <= i /\ i < 256
theorem SpB.up {k : Nat} {p : Spot} (h : SpB k p) : SpB (k + 1) p := by
 obtain ⟨⟨h1, h2⟩, ⟨h3, h4⟩, h5, h6, h7, h8⟩ := h
 refine ⟨⟨?_, ?_⟩, ⟨?_, ?_⟩, h5, h6, h7, h8⟩ <;> push_cast <;> lia
theorem SpB.ok {k : Nat} {p : Spot} (h : SpB k p) (hk : k <= 40) : -1400000000 <= p.h /\ p.h <= 1400000000 /\ -1400000000 <= p.v /\ p.v <= 1400000000 := by
 obtain ⟨⟨h1, h2⟩, ⟨h3, h4⟩, _⟩ := h
 have : (k : Int) * 33554432 <= 40 * 33554432 := Int.mul_le_mul_of_nonneg_right (by lia) (by decide)
 lia
theorem qOf_ok {k : Nat} {s : PgS} (h : Bd k s) (hk : k <= 40) (d : Int) : Ok (qOf s d) := by
 obtain ⟨a, b, c, e⟩ := h.sp.ok hk
 have := h.sl
 have := h.rl
 exact ⟨⟨by show _ <= s.sp.h; lia, by show s.sp.h <= _; lia⟩, ⟨by show _ <= s.sp.v; lia, by show s.sp.v <= _; lia⟩, by show (s.ss.map _).length <= _; rw [List.length_map]; lia, by show s.rows.length <= _; lia⟩
structure Tr (k : Nat) (s s' : PgS) : Prop where
 a0 : s'.a0 = s.a0
 ss : s'.ss = s.ss
 d4 : s'.d4 = s.d4
 ft : s'.font = s.font
 r : ∃ E4 E5, s'.b4 = s.b4 ++ E4 /\ s'.b5 = s.b5 ++ E5 /\ (∀ kv, Reads kv E4 (qOf s s.d4) (qOf s' s.d4) []) /\ (∀ kv, Reads kv E5 (qOf s s.d5) (qOf s' s'.d5) [])
 b : Bd (k + 1) s'
theorem Step.byte {kv d : List (Int × W)} {o : Int} {r : List Int} {q q' : PSt} (s : Step kv o r q q' d) : 0 <= o /\ o < 256 := ⟨s.op.1, s.op.2.1⟩
theorem Tr.of {k : Nat} {s : PgS} (hb : Bd k s) {sp' : Spot} {rows' : List W} {E4 E5 : List Int} {d5' : Int} (h1 : SpB (k + 1) sp') (hr : rows' = s.rows \/ ∃ r : W, rows' = s.rows ++ [r] /\ r.pl 1 = true) (l4 : E4.length <= 100) (l5 : E5.length <= 100)
  (o4 : ∀ i ∈ E4, 0 <= i /\ i < 256) (o5 : ∀ i ∈ E5, 0 <= i /\ i < 256)
  (hd : s.d5 <= d5' /\ d5' <= max s.d5 ((s.ss.length : Int) + 1)) (r4 : ∀ kv, Reads kv E4 (qOf s s.d4) (qOf { s with sp := sp', rows := rows' } s.d4) []) (r5 : ∀ kv, Reads kv E5 (qOf s s.d5) (qOf { s with sp := sp', rows := rows' } d5') []) :
  Tr k s ⟨s.a0, sp', s.ss, rows', s.font, s.b4 ++ E4, s.b5 ++ E5, s.d4, d5'⟩ := by
 refine ⟨rfl, rfl, rfl, rfl, ⟨E4, E5, rfl, rfl, r4, r5⟩, ?_⟩
 have a1 := hb.sl
 have a2 := hb.rl
 have a3 := hb.l4
 have a4 := hb.l5
 have a5 := hb.d4
 have a6 := hb.d5
 have hrl : rows'.length <= k + 1 := by
  rcases hr with rfl | ⟨r, rfl, _⟩
  ·lia
  ·simp; lia
 have hfl : rows'.all (W.pl 1) = true := by
  rcases hr with rfl | ⟨r, rfl, hf⟩
  ·exact hb.fl
  ·simp only [List.all_append, hb.fl, List.all_cons, hf]; rfl
 refine ⟨h1, fun p hp => (hb.ss p hp).up, by show s.ss.length <= _; lia, hrl, by show (s.b4 ++ E4).length <= _; rw [List.length_append]; lia, by show (s.b5 ++ E5).length <= _; rw [List.length_append]; lia, ?_, ?_, hfl, ?_, ?_⟩
 ·show 0 <= s.d4 /\ s.d4 <= _; push_cast; lia
 ·show 0 <= d5' /\ d5' <= _; push_cast; lia
 ·intro i hi; rcases List.mem_append.mp hi with hi | hi; exact hb.o4 i hi; exact o4 i hi
 ·intro i hi; rcases List.mem_append.mp hi with hi | hi; exact hb.o5 i hi; exact o5 i hi
theorem Step.cast {kv o o' r q q' q2 d} (s : Step kv o r q q' d) (e : o = o') (e2 : q' = q2) : Step kv o' r q q2 d := e ▸ e2 ▸ s
theorem Reads.cast {kv b b' q q' q2 d} (s : Reads kv b q q' d) (e : b = b') (e2 : q' = q2) : Reads kv b' q q2 d := e ▸ e2 ▸ s
theorem Reads.app {kv bs cs q q1 q2} (a : Reads kv bs q q1 []) (b : Reads kv cs q1 q2 []) : Reads kv (bs ++ cs) q q2 [] := by
 have := a.append (d2 := []) (by simpa using b)
 simpa using this
theorem rd_right {kv} {q : PSt} {v : Int} {k : Nat} (h : 1 <= k /\ k <= 4) (e : seV k (putB v k) = v) (o1 : Ok q) (o2 : Ok { q with h := q.h + v }) : Reads kv ((143 + (k : Int) - 1) :: putB v k) q { q with h := q.h + v } [] := by
 have := Step.right (kv := kv) (q := q) (k := ((putB v k).length : Int) - 1) (sz := seV (putB v k).length (putB v k)) (w := q.w) (x := q.x) (bs := putB v k) (.p (by rw [putB_len]; exact h)) o1 (by rw [putB_len, e]; exact o2)
 rw [putB_len, e] at this
 exact Reads.one (this.cast (by lia) rfl)
theorem rd_rightw {kv} {q : PSt} {v : Int} {k : Nat} (h : 1 <= k /\ k <= 4) (e : seV k (putB v k) = v) (o1 : Ok q) (o2 : Ok { q with h := q.h + v }) : Reads kv ((148 + (k : Int) - 1) :: putB v k) q { q with h := q.h + v, w := v } [] := by
 have := Step.right (kv := kv) (q := q) (k := ((putB v k).length : Int) + 4) (sz := seV (putB v k).length (putB v k)) (w := seV (putB v k).length (putB v k)) (x := q.x) (bs := putB v k) (.f (by rw [putB_len]; exact h)) o1 (by rw [putB_len, e]; exact o2)
 rw [putB_len, e] at this
 exact Reads.one (this.cast (by lia) rfl)
theorem rd_rightx {kv} {q : PSt} {v : Int} {k : Nat} (h : 1 <= k /\ k <= 4) (e : seV k (putB v k) = v) (o1 : Ok q) (o2 : Ok { q with h := q.h + v }) : Reads kv ((153 + (k : Int) - 1) :: putB v k) q { q with h := q.h + v, x := v } [] := by
 have := Step.right (kv := kv) (q := q) (k := ((putB v k).length : Int) + 9) (sz := seV (putB v k).length (putB v k)) (w := q.w) (x := seV (putB v k).length (putB v k)) (bs := putB v k) (.s (by rw [putB_len]; exact h)) o1 (by rw [putB_len, e]; exact o2)
 rw [putB_len, e] at this
 exact Reads.one (this.cast (by lia) rfl)
theorem rd_w0 {kv} {q : PSt} (o1 : Ok q) (o2 : Ok { q with h := q.h + q.w }) : Reads kv [147] q { q with h := q.h + q.w } [] :=
 Reads.one (Step.right (kv := kv) (q := q) (w := q.w) (x := q.x) .f0 o1 o2)
theorem rd_x0 {kv} {q : PSt} (o1 : Ok q) (o2 : Ok { q with h := q.h + q.x }) : Reads kv [152] q { q with h := q.h + q.x } [] :=
 Reads.one (Step.right (kv := kv) (q := q) (w := q.w) (x := q.x) .s0 o1 o2)
theorem rd_down {kv} {q : PSt} {v : Int} {k : Nat} (h : 1 <= k /\ k <= 4) (e : seV k (putB v k) = v) (o1 : Ok q) (o2 : Ok { q with v := q.v + v }) : Reads kv ((157 + (k : Int) - 1) :: putB v k) q { q with v := q.v + v } [] := by
 have := Step.down (kv := kv) (q := q) (k := ((putB v k).length : Int) - 1) (sz := seV (putB v k).length (putB v k)) (y := q.y) (z := q.z) (bs := putB v k) (.p (by rw [putB_len]; exact h)) o1 (by rw [putB_len, e]; exact o2)
 rw [putB_len, e] at this
 exact Reads.one (this.cast (by lia) rfl)
theorem rd_downy {kv} {q : PSt} {v : Int} {k : Nat} (h : 1 <= k /\ k <= 4) (e : seV k (putB v k) = v) (o1 : Ok q) (o2 : Ok { q with v := q.v + v }) : Reads kv ((162 + (k : Int) - 1) :: putB v k) q { q with v := q.v + v, y := v } [] := by
 have := Step.down (kv := kv) (q := q) (k := ((putB v k).length : Int) + 4) (sz := seV (putB v k).length (putB v k)) (y := seV (putB v k).length (putB v k)) (z := q.z) (bs := putB v k) (.f (by rw [putB_len]; exact h)) o1 (by rw [putB_len, e]; exact o2)
 rw [putB_len, e] at this
 exact Reads.one (this.cast (by lia) rfl)
theorem rd_downz {kv} {q : PSt} {v : Int} {k : Nat} (h : 1 <= k /\ k <= 4) (e : seV k (putB v k) = v) (o1 : Ok q) (o2 : Ok { q with v := q.v + v }) : Reads kv ((167 + (k : Int) - 1) :: putB v k) q { q with v := q.v + v, z := v } [] := by
 have := Step.down (kv := kv) (q := q) (k := ((putB v k).length : Int) + 9) (sz := seV (putB v k).length (putB v k)) (y := q.y) (z := seV (putB v k).length (putB v k)) (bs := putB v k) (.s (by rw [putB_len]; exact h)) o1 (by rw [putB_len, e]; exact o2)
 rw [putB_len, e] at this
 exact Reads.one (this.cast (by lia) rfl)
theorem rd_y0 {kv} {q : PSt} (o1 : Ok q) (o2 : Ok { q with v := q.v + q.y }) : Reads kv [161] q { q with v := q.v + q.y } [] :=
 Reads.one (Step.down (kv := kv) (q := q) (y := q.y) (z := q.z) .f0 o1 o2)
theorem rd_z0 {kv} {q : PSt} (o1 : Ok q) (o2 : Ok { q with v := q.v + q.z }) : Reads kv [166] q { q with v := q.v + q.z } [] :=
 Reads.one (Step.down (kv := kv) (q := q) (y := q.y) (z := q.z) .s0 o1 o2)
theorem rd_between {kv os} {q q' : PSt} (o1 : Ok q) (h : Reads kv os { q with stack := q.stack ++ [four q], deepest := max q.deepest ((q.stack.length : Int) + 1) } q' []) (hs : q'.stack = q.stack ++ [four q]) (o2 : Ok q') :
  Reads kv (141 :: (os ++ [142])) q { q' with h := q.h, v := q.v, w := q.w, x := q.x, y := q.y, z := q.z, stack := q.stack } [] := by
 have a := Reads.one (Step.push (kv := kv) (q := q) o1)
 have b := Reads.one (Step.pop (kv := kv) (q := q') o2 hs)
 exact (a.app (h.app b)).cast (by simp) rfl
end
section
theorem ok_of {q : PSt} (h : -2000000000 <= q.h /\ q.h <= 2000000000) (v : -2000000000 <= q.v /\ q.v <= 2000000000) (s : q.stack.length <= 1000) (r : q.rows.length <= 1000) : Ok q :=
 ⟨by lia, by lia, by lia, by lia⟩
local macro_rules | `(tactic| fail "ok") => `(tactic| (refine ok_of ⟨?_, ?_⟩ ⟨?_, ?_⟩ ?_ ?_ <;> simp only [qOf, List.length_append, List.length_map, List.length_cons, List.length_nil] <;> lia))
theorem putB1 {c : Int} (h : 0 <= c /\ c < 256) : putB c 1 = [c] := by
 have : c / 256 ^ 0 % 256 = c := by rw [Int.pow_zero, Int.ediv_one]; lia
 rw [putB_c, this]; rfl
theorem rd_let1 {kv} {q : PSt} {c w : Int} (h : 0 <= c /\ c < 128) (hf : isF q.font) (hc : lkG (fcs q.font) c = some (crow w)) (o1 : Ok q) (o2 : Ok { q with h := q.h + w }) : Reads kv [c] q { q with h := q.h + w, rows := q.rows ++ [lrow q c] } [] :=
 Reads.one (.letter1 h hf hc o1 o2)
theorem put_code {c : Int} {r : Nat} (h : 0 <= c /\ c < 256) (hr : 1 <= r) : beV (putB c r) = c := by
 refine beV_put h.1 (Int.lt_of_lt_of_le h.2 ?_)
 obtain ⟨m, rfl⟩ : ∃ m, r = m + 1 := ⟨r - 1, by lia⟩
 rw [Int.pow_succ]
 have : 0 < (256 : Int) ^ m := Int.pow_pos (by lia)
 lia
theorem rd_let2 {kv} {q : PSt} {c w : Int} {r : Nat} (h : 0 <= c /\ c < 256) (hr : 1 <= r /\ r <= 4) (hf : isF q.font) (hc : lkG (fcs q.font) c = some (crow w)) (o1 : Ok q) (o2 : Ok { q with h := q.h + w }) : Reads kv ((127 + (r : Int)) :: putB c r) q { q with h := q.h + w, rows := q.rows ++ [lrow q c] } [] := by
 have e := put_code h hr.1
 have := Step.letter2 (kv := kv) (q := q) (bs := putB c r) (w := w) (by rw [putB_len]; exact hr) hf (by rw [e]; exact hc) o1 o2
 rw [putB_len, e] at this
 exact Reads.one this
theorem rd_let3 {kv} {q : PSt} {c w : Int} {r : Nat} (h : 0 <= c /\ c < 256) (hr : 1 <= r /\ r <= 4) (hf : isF q.font) (hc : lkG (fcs q.font) c = some (crow w)) (o1 : Ok q) : Reads kv ((132 + (r : Int)) :: putB c r) q { q with rows := q.rows ++ [lrow q c] } [] := by
 have e := put_code h hr.1
 have := Step.letter3 (kv := kv) (q := q) (bs := putB c r) (w := w) (by rw [putB_len]; exact hr) hf (by rw [e]; exact hc) o1
 rw [putB_len, e] at this
 exact Reads.one this
theorem fnt_F {f : Int} (h : isF f) : fnt f = f := by
 rcases h with rfl | rfl <;> rfl
section
variable {k : Nat} {s : PgS}
theorem Tr.same (hb : Bd k s) : Tr k s s := by
 have := Tr.of hb (sp' := s.sp) (rows' := s.rows) (E4 := []) (E5 := []) (d5' := s.d5) hb.sp.up (.inl rfl) (by simp) (by simp) (by simp) (by simp) (by lia) (fun O => .nil) (fun O => .nil)
 simpa using this
theorem Tr.five (hb : Bd k s) (hk : k <= 30) {E5 : List Int} {d5' : Int} (l5 : E5.length <= 100) (o5 : ∀ i ∈ E5, 0 <= i /\ i < 256) (hd : s.d5 <= d5' /\ d5' <= max s.d5 ((s.ss.length : Int) + 1)) (r5 : ∀ kv, Reads kv E5 (qOf s s.d5) (qOf s d5') []) : Tr k s ⟨s.a0, s.sp, s.ss, s.rows, s.font, s.b4, s.b5 ++ E5, s.d4, d5'⟩ := by
 have := Tr.of hb (sp' := s.sp) (rows' := s.rows) (E4 := []) (E5 := E5) (d5' := d5') hb.sp.up (.inl rfl) (by simp) l5 (by simp) o5 hd (fun O => .nil) r5
 simpa using this
theorem tr_nop (hb : Bd k s) (hk : k <= 30) : Tr k s ⟨s.a0, s.sp, s.ss, s.rows, s.font, s.b4, s.b5 ++ [138], s.d4, s.d5⟩ :=
 Tr.five hb hk (by simp) (by simp) (by lia) fun kv => Reads.one .nop
theorem tr_thin (hb : Bd k s) (hk : k <= 30) : Tr k s ⟨s.a0, s.sp, s.ss, s.rows, s.font, s.b4, s.b5 ++ [137, 0, 0, 0, 0, 0, 0, 1, 44], s.d4, s.d5⟩ :=
 Tr.five hb hk (by simp) (by simp) (by lia) fun kv => by
  have := Step.rule (kv := kv) (q := qOf s s.d5) (m := false) (a := [0, 0, 0, 0]) (b := [0, 0, 1, 44]) rfl rfl (qOf_ok hb (by lia) _) (qOf_ok hb (by lia) _)
  have e : seV 4 [0, 0, 0, 0] = 0 := by decide
  rw [e] at this
  exact Reads.one this
theorem Tr.betw (hb : Bd k s) (hk : k <= 30) {os : List Int} {sp' : Spot} {rows' : List W} (r : ∀ kv, Reads kv os { qOf s s.d5 with stack := (qOf s s.d5).stack ++ [four (qOf s s.d5)], deepest := max s.d5 ((s.ss.length : Int) + 1) }
   { qOf ⟨s.a0, sp', s.ss, rows', s.font, s.b4, s.b5, s.d4, s.d5⟩ (max s.d5 ((s.ss.length : Int) + 1)) with stack := (qOf s s.d5).stack ++ [four (qOf s s.d5)] } [])
  (o2 : Ok { qOf ⟨s.a0, sp', s.ss, rows', s.font, s.b4, s.b5, s.d4, s.d5⟩ (max s.d5 ((s.ss.length : Int) + 1)) with stack := (qOf s s.d5).stack ++ [four (qOf s s.d5)] }) :
  ∀ kv, Reads kv (141 :: (os ++ [142])) (qOf s s.d5) (qOf ⟨s.a0, s.sp, s.ss, rows', s.font, s.b4, s.b5, s.d4, s.d5⟩ (max s.d5 ((s.ss.length : Int) + 1))) [] := fun kv => by
 have hl : (qOf s s.d5).stack.length = s.ss.length := by simp [qOf]
 have := rd_between (kv := kv) (os := os) (q := qOf s s.d5) (qOf_ok hb (by lia) _) (by rw [hl]; exact r kv) rfl o2
 exact this
theorem tr_betw0 (hb : Bd k s) (hk : k <= 30) : Tr k s ⟨s.a0, s.sp, s.ss, s.rows, s.font, s.b4, s.b5 ++ [141, 142], s.d4, max s.d5 ((s.ss.length : Int) + 1)⟩ := by
 refine cps fun G0 z0 => ?_
 obtain ⟨a1, a2, a3, a4⟩ := hb.sp.ok (by lia)
 refine z0 ?_
 clear z0
 have a5 := hb.sl
 have a6 := hb.rl
 exact Tr.five hb hk (by simp) (by simp) (by lia) (Tr.betw hb hk (os := []) (sp' := s.sp) (rows' := s.rows) (fun O => .nil) (by fail "ok"))
theorem one_signed {o : Int} (h : 0 <= o /\ o < 256) : -128 <= seV 1 [o] /\ seV 1 [o] <= 127 := by
 unfold seV
 rw [beV_one]
 simp only [Nat.sub_self, Int.pow_zero]
 split <;> lia
theorem tr_betw4 (hb : Bd k s) (hk : k <= 30) {a b o t : Int} (ha : a = 148 \/ a = 153) (hb' : b = 162 \/ b = 167) (ho : 0 <= o /\ o < 256) (ht : 0 <= t /\ t < 256) : Tr k s ⟨s.a0, s.sp, s.ss, s.rows, s.font, s.b4, s.b5 ++ [141, a, o, b, t, 142], s.d4, max s.d5 ((s.ss.length : Int) + 1)⟩ := by
 refine cps fun G0 z0 => ?_
 obtain ⟨a1, a2, a3, a4⟩ := hb.sp.ok (by lia)
 refine z0 ?_
 clear z0
 have a5 := hb.sl
 have a6 := hb.rl
 have e1 := one_signed ho
 have e2 := one_signed ht
 refine Tr.five hb hk (by simp) ?_ (by lia) ?_
 ·intro i hi
  simp only [List.mem_cons, List.not_mem_nil, or_false] at hi
  lia
 have ra : ∀ (kv) (q : PSt), Ok q -> Ok { q with h := q.h + seV 1 [o] } -> ∃ w x, Reads kv [a, o] q { q with h := q.h + seV 1 [o], w := w, x := x } [] := fun kv q o1 o2 => by
  rcases ha with rfl | rfl
  ·exact ⟨seV 1 [o], q.x, Reads.one (Step.right (bs := [o]) (.f (by simp)) o1 o2)⟩
  ·exact ⟨q.w, seV 1 [o], Reads.one (Step.right (bs := [o]) (.s (by simp)) o1 o2)⟩
 have rb : ∀ (kv) (q : PSt), Ok q -> Ok { q with v := q.v + seV 1 [t] } -> ∃ y z, Reads kv [b, t] q { q with v := q.v + seV 1 [t], y := y, z := z } [] := fun kv q o1 o2 => by
  rcases hb' with rfl | rfl
  ·exact ⟨seV 1 [t], q.z, Reads.one (Step.down (bs := [t]) (.f (by simp)) o1 o2)⟩
  ·exact ⟨q.y, seV 1 [t], Reads.one (Step.down (bs := [t]) (.s (by simp)) o1 o2)⟩
 intro kv
 obtain ⟨w, x, r1⟩ := ra kv { qOf s s.d5 with stack := (qOf s s.d5).stack ++ [four (qOf s s.d5)], deepest := max s.d5 ((s.ss.length : Int) + 1) } (by fail "ok") (by fail "ok")
 obtain ⟨y, z, r2⟩ := rb kv { qOf s s.d5 with h := s.sp.h + seV 1 [o], w := w, x := x, stack := (qOf s s.d5).stack ++ [four (qOf s s.d5)], deepest := max s.d5 ((s.ss.length : Int) + 1) } (by fail "ok") (by fail "ok")
 have hl : (qOf s s.d5).stack.length = s.ss.length := by simp [qOf]
 have := rd_between (kv := kv) (os := [a, o] ++ [b, t]) (q := qOf s s.d5) (qOf_ok hb (by lia) _) (by simp only [hl]; exact r1.app r2) rfl (by fail "ok")
 exact this
end
end
section
local macro_rules | `(tactic| fail "ok") => `(tactic| (refine ok_of ⟨?_, ?_⟩ ⟨?_, ?_⟩ ?_ ?_ <;> simp only [qOf, List.length_append, List.length_map, List.length_cons, List.length_nil] <;> lia))
theorem oct_cons {a : Int} {l : List Int} (h : 0 <= a /\ a < 256) (k : ∀ i ∈ l, 0 <= i /\ i < 256) : ∀ i ∈ a :: l, 0 <= i /\ i < 256 := by
 intro i hi
 rcases List.mem_cons.mp hi with rfl | hi
 ·exact h
 ·exact k i hi
theorem oct_app {a b : List Int} (h : ∀ i ∈ a, 0 <= i /\ i < 256) (k : ∀ i ∈ b, 0 <= i /\ i < 256) : ∀ i ∈ a ++ b, 0 <= i /\ i < 256 := by
 intro i hi
 rcases List.mem_append.mp hi with hi | hi
 ·exact h i hi
 ·exact k i hi
theorem oct_nil : ∀ i ∈ ([] : List Int), 0 <= i /\ i < 256 := by simp
section
variable {k : Nat} {s : PgS}
theorem tr_letT (hb : Bd k s) (hk : k <= 30) {c w : Int} {E4 E5 : List Int} (hf : isF s.font) (hc : lkG (fcs s.font) c = some (crow w)) (h4 : (E4 = [c] /\ c < 128) \/ E4 = [128, c])
  (h5 : (∃ r : Nat, 2 <= r /\ r <= 4 /\ E5 = (127 + (r : Int)) :: putB c r) \/ (∃ j : Nat, 1 <= j /\ j <= 4 /\ seV j (putB w j) = w /\ E5 = 133 :: c :: ((143 + (j : Int) - 1) :: putB w j))) :
  Tr k s ⟨s.a0, ⟨s.sp.h + w, s.sp.v, s.sp.w, s.sp.x, s.sp.y, s.sp.z⟩, s.ss, s.rows ++ [.tup [.int 0, .int s.sp.h, .int s.sp.v, .int s.font, .int c]], s.font, s.b4 ++ E4, s.b5 ++ E5, s.d4, s.d5⟩ := by
 refine cps fun G0 z0 => ?_
 obtain ⟨a1, a2, a3, a4⟩ := hb.sp.ok (by lia)
 have a5 := hb.sl
 have a6 := hb.rl
 obtain ⟨w', e, w0, w1, c1, c0⟩ := crow_lk hc
 refine z0 ?_
 clear z0
 have : w' = w := by
  cases e; rfl
 subst this
 have hfq : ∀ d, isF (qOf s d).font := fun d => by show isF (fnt s.font); rw [fnt_F hf]; exact hf
 have hcq : ∀ d, lkG (fcs (qOf s d).font) c = some (crow w') := fun d => by show lkG (fcs (fnt s.font)) c = _; rw [fnt_F hf]; exact hc
 have hrow : ∀ d, lrow (qOf s d) c = .tup [.int 0, .int s.sp.h, .int s.sp.v, .int s.font, .int c] := fun d => by unfold lrow; rw [show (qOf s d).font = fnt s.font from rfl, fnt_F hf]; rfl
 refine Tr.of hb ?_ (.inr ⟨_, rfl, rfl⟩) ?_ ?_ ?_ ?_ (by lia) (fun kv => ?_) (fun kv => ?_)
 ·obtain ⟨⟨h1, h2⟩, ⟨h3, h4⟩, h5, h6, h7, h8⟩ := hb.sp
  refine ⟨⟨?_, ?_⟩, ⟨?_, ?_⟩, h5, h6, h7, h8⟩ <;> push_cast <;> (try simp only) <;> lia
 ·rcases h4 with ⟨rfl, _⟩ | rfl <;> simp
 ·rcases h5 with ⟨r, _, _, rfl⟩ | ⟨j, _, _, _, rfl⟩ <;> simp [putB_len] <;> lia
 ·rcases h4 with ⟨rfl, _⟩ | rfl
  ·exact oct_cons (by lia) oct_nil
  ·exact oct_cons (by lia) (oct_cons (by lia) oct_nil)
 ·rcases h5 with ⟨r, _, _, rfl⟩ | ⟨j, _, _, _, rfl⟩
  ·exact oct_cons (by lia) (putB_oct _ _)
  ·exact oct_cons (by lia) (oct_cons (by lia) (oct_cons (by lia) (putB_oct _ _)))
 ·have o1 := qOf_ok hb (by lia) s.d4
  have o2 : Ok { qOf s s.d4 with h := (qOf s s.d4).h + w' } := by fail "ok"
  rcases h4 with ⟨rfl, hlt⟩ | rfl
  ·have := rd_let1 (kv := kv) ⟨c0, hlt⟩ (hfq s.d4) (hcq s.d4) o1 o2
   rw [hrow] at this
   exact this
  ·have := rd_let2 (kv := kv) (r := 1) ⟨c0, by lia⟩ (by lia) (hfq s.d4) (hcq s.d4) o1 o2
   rw [hrow, putB1 ⟨c0, by lia⟩] at this
   exact this
 ·have o1 := qOf_ok hb (by lia) s.d5
  have o2 : Ok { qOf s s.d5 with h := (qOf s s.d5).h + w' } := by fail "ok"
  rcases h5 with ⟨r, r2, r4, rfl⟩ | ⟨j, j1, j4, je, rfl⟩
  ·have := rd_let2 (kv := kv) (r := r) ⟨c0, by lia⟩ (by lia) (hfq s.d5) (hcq s.d5) o1 o2
   rw [hrow] at this
   exact this
  ·have := rd_let3 (kv := kv) (r := 1) ⟨c0, by lia⟩ (by lia) (hfq s.d5) (hcq s.d5) o1
   rw [hrow, putB1 ⟨c0, by lia⟩] at this
   exact this.app (rd_right ⟨j1, j4⟩ je (by fail "ok") (by fail "ok"))
theorem tr_letF (hb : Bd k s) (hk : k <= 30) {c w d5 : Int} {E5 : List Int} (hf : isF s.font) (hc : lkG (fcs s.font) c = some (crow w))
  (h5 : (∃ r : Nat, 2 <= r /\ r <= 4 /\ E5 = (132 + (r : Int)) :: putB c r /\ d5 = s.d5) \/ (E5 = [141, 128, c, 142] /\ d5 = max s.d5 ((s.ss.length : Int) + 1))) :
  Tr k s ⟨s.a0, s.sp, s.ss, s.rows ++ [.tup [.int 0, .int s.sp.h, .int s.sp.v, .int s.font, .int c]], s.font, s.b4 ++ [133, c], s.b5 ++ E5, s.d4, d5⟩ := by
 refine cps fun G0 z0 => ?_
 obtain ⟨a1, a2, a3, a4⟩ := hb.sp.ok (by lia)
 have a5 := hb.sl
 have a6 := hb.rl
 obtain ⟨w', e, w0, w1, c1, c0⟩ := crow_lk hc
 have : w' = w := by
  cases e; rfl
 subst this
 refine z0 ?_
 clear z0
 have hfq : ∀ d, isF (qOf s d).font := fun d => by show isF (fnt s.font); rw [fnt_F hf]; exact hf
 have hcq : ∀ d, lkG (fcs (qOf s d).font) c = some (crow w') := fun d => by show lkG (fcs (fnt s.font)) c = _; rw [fnt_F hf]; exact hc
 have hrow : ∀ d, lrow (qOf s d) c = .tup [.int 0, .int s.sp.h, .int s.sp.v, .int s.font, .int c] := fun d => by unfold lrow; rw [show (qOf s d).font = fnt s.font from rfl, fnt_F hf]; rfl
 refine Tr.of hb hb.sp.up (.inr ⟨_, rfl, rfl⟩) (by simp) ?_ (oct_cons (by lia) (oct_cons (by lia) oct_nil)) ?_ ?_ (fun kv => ?_) ?_
 ·rcases h5 with ⟨r, _, _, rfl, _⟩ | ⟨rfl, _⟩ <;> simp [putB_len] <;> lia
 ·rcases h5 with ⟨r, _, _, rfl, _⟩ | ⟨rfl, _⟩
  ·exact oct_cons (by lia) (putB_oct _ _)
  ·exact oct_cons (by lia) (oct_cons (by lia) (oct_cons (by lia) (oct_cons (by lia) oct_nil)))
 ·rcases h5 with ⟨r, _, _, _, rfl⟩ | ⟨_, rfl⟩ <;> lia
 ·have := rd_let3 (kv := kv) (r := 1) ⟨c0, by lia⟩ (by lia) (hfq s.d4) (hcq s.d4) (qOf_ok hb (by lia) s.d4)
  rw [hrow, putB1 ⟨c0, by lia⟩] at this
  exact this
 ·rcases h5 with ⟨r, r2, r4, rfl, rfl⟩ | ⟨rfl, rfl⟩
  ·intro kv
   have := rd_let3 (kv := kv) (r := r) ⟨c0, by lia⟩ (by lia) (hfq s.d5) (hcq s.d5) (qOf_ok hb (by lia) s.d5)
   rw [hrow] at this
   exact this
  ·refine Tr.betw hb hk (os := [128, c]) (sp' := ⟨s.sp.h + w', s.sp.v, s.sp.w, s.sp.x, s.sp.y, s.sp.z⟩) (rows' := s.rows ++ [.tup [.int 0, .int s.sp.h, .int s.sp.v, .int s.font, .int c]]) (fun kv => ?_) (by fail "ok")
   have := rd_let2 (kv := kv) (r := 1) (q := { qOf s s.d5 with stack := (qOf s s.d5).stack ++ [four (qOf s s.d5)], deepest := max s.d5 ((s.ss.length : Int) + 1) }) ⟨c0, by lia⟩ (by lia) (hfq s.d5) (hcq s.d5) (by fail "ok") (by fail "ok")
   rw [putB1 ⟨c0, by lia⟩] at this
   refine this.cast rfl ?_
   have hr := hrow s.d5
   unfold lrow at hr ⊢
   rw [hr]; rfl
end
end
section
local macro_rules | `(tactic| fail "ok") => `(tactic| (refine ok_of ⟨?_, ?_⟩ ⟨?_, ?_⟩ ?_ ?_ <;> simp only [qOf, List.length_append, List.length_map, List.length_cons, List.length_nil] <;> lia))
section
variable {k : Nat} {s : PgS}
noncomputable def far (v : Int) : Prop := -33554432 <= v /\ v <= 33554432
theorem SpB.addh {p : Spot} {v w x : Int} (h : SpB k p) (hv : far v) (hw : far w) (hx : far x) : SpB (k + 1) ⟨p.h + v, p.v, w, x, p.y, p.z⟩ := by
 obtain ⟨⟨h1, h2⟩, ⟨h3, h4⟩, h5, h6, h7, h8⟩ := h
 obtain ⟨v1, v2⟩ := hv
 refine ⟨⟨?_, ?_⟩, ⟨?_, ?_⟩, hw, hx, h7, h8⟩ <;> push_cast <;> (try simp only) <;> lia
theorem SpB.addv {p : Spot} {v y z : Int} (h : SpB k p) (hv : far v) (hy : far y) (hz : far z) : SpB (k + 1) ⟨p.h, p.v + v, p.w, p.x, y, z⟩ := by
 obtain ⟨⟨h1, h2⟩, ⟨h3, h4⟩, h5, h6, h7, h8⟩ := h
 obtain ⟨v1, v2⟩ := hv
 refine ⟨⟨?_, ?_⟩, ⟨?_, ?_⟩, h5, h6, hy, hz⟩ <;> push_cast <;> (try simp only) <;> lia
theorem far4 {v : Int} (h : far v) : seV 4 (putB v 4) = v := seV_put4 (by have := h.1; lia) (by have := h.2; lia)
theorem rd_rule {kv} {q : PSt} {a b : Int} (m : Bool) (ha : far a) (hb : far b) (o1 : Ok q) (o2 : Ok { q with h := if m then q.h + b else q.h }) :
  Reads kv ((if m then 132 else 137) :: (putB a 4 ++ putB b 4)) q { q with h := if m then q.h + b else q.h, rows := if 0 < a /\ 0 < b then q.rows ++ [.tup [.int 1, .int q.h, .int q.v, .int a, .int b]] else q.rows } [] := by
 have := Step.rule (kv := kv) (q := q) (m := m) (a := putB a 4) (b := putB b 4) (putB_len _ _) (putB_len _ _) o1 (by rw [far4 hb]; exact o2)
 rw [far4 ha, far4 hb] at this
 exact Reads.one this
theorem tr_ruleT (hb : Bd k s) (hk : k <= 30) {a b : Int} {j : Nat} {rows' : List W} (ha : far a) (hw : far b) (hr : rows' = if 0 < a /\ 0 < b then s.rows ++ [.tup [.int 1, .int s.sp.h, .int s.sp.v, .int a, .int b]] else s.rows) (hj : 1 <= j /\ j <= 4) (je : seV j (putB b j) = b) :
  Tr k s ⟨s.a0, ⟨s.sp.h + b, s.sp.v, s.sp.w, s.sp.x, s.sp.y, s.sp.z⟩, s.ss, rows', s.font, s.b4 ++ (132 :: (putB a 4 ++ putB b 4)), s.b5 ++ ((137 :: (putB a 4 ++ putB b 4)) ++ ((143 + (j : Int) - 1) :: putB b j)), s.d4, s.d5⟩ := by
 obtain ⟨a1, a2, a3, a4⟩ := hb.sp.ok (by lia)
 have a5 := hb.sl
 have a6 := hb.rl
 have w1 := hw.1
 have w2 := hw.2
 have hrl : rows'.length <= s.rows.length + 1 := by rw [hr]; split <;> simp
 refine Tr.of hb (hb.sp.addh hw hb.sp.w hb.sp.x) ?_ (by simp [putB_len]) (by simp [putB_len]; lia) (oct_cons (by lia) (oct_app (putB_oct _ _) (putB_oct _ _))) (oct_app (oct_cons (by lia) (oct_app (putB_oct _ _) (putB_oct _ _))) (oct_cons (by lia) (putB_oct _ _))) (by lia) (fun kv => ?_) (fun kv => ?_)
 ·by_cases h : 0 < a /\ 0 < b
  ·rw [if_pos h] at hr; exact .inr ⟨_, hr, rfl⟩
  ·rw [if_neg h] at hr; exact .inl hr
 ·subst hr
  exact rd_rule true ha hw (qOf_ok hb (by lia) _) (by simp only [if_true]; fail "ok")
 ·have := rd_rule (kv := kv) (q := qOf s s.d5) false ha hw (qOf_ok hb (by lia) _) (qOf_ok hb (by lia) _)
  subst hr
  exact this.app (rd_right hj je (by fail "ok") (by fail "ok"))
theorem tr_ruleF (hb : Bd k s) (hk : k <= 30) {a b : Int} {rows' : List W} (ha : far a) (hw : far b) (hr : rows' = if 0 < a /\ 0 < b then s.rows ++ [.tup [.int 1, .int s.sp.h, .int s.sp.v, .int a, .int b]] else s.rows) :
  Tr k s ⟨s.a0, s.sp, s.ss, rows', s.font, s.b4 ++ (137 :: (putB a 4 ++ putB b 4)), s.b5 ++ (141 :: ((132 :: (putB a 4 ++ putB b 4)) ++ [142])), s.d4, max s.d5 ((s.ss.length : Int) + 1)⟩ := by
 obtain ⟨a1, a2, a3, a4⟩ := hb.sp.ok (by lia)
 have a5 := hb.sl
 have a6 := hb.rl
 have w1 := hw.1
 have w2 := hw.2
 have hrl : rows'.length <= s.rows.length + 1 := by rw [hr]; split <;> simp
 refine Tr.of hb hb.sp.up ?_ (by simp [putB_len]) (by simp [putB_len]) (oct_cons (by lia) (oct_app (putB_oct _ _) (putB_oct _ _))) (oct_cons (by lia) (oct_app (oct_cons (by lia) (oct_app (putB_oct _ _) (putB_oct _ _))) (oct_cons (by lia) oct_nil))) (by lia) (fun kv => ?_) ?_
 ·by_cases h : 0 < a /\ 0 < b
  ·rw [if_pos h] at hr; exact .inr ⟨_, hr, rfl⟩
  ·rw [if_neg h] at hr; exact .inl hr
 ·subst hr
  exact rd_rule false ha hw (qOf_ok hb (by lia) _) (qOf_ok hb (by lia) _)
 ·refine Tr.betw hb hk (sp' := ⟨s.sp.h + b, s.sp.v, s.sp.w, s.sp.x, s.sp.y, s.sp.z⟩) (fun kv => ?_) (by fail "ok")
  subst hr
  exact rd_rule (q := { qOf s s.d5 with stack := (qOf s s.d5).stack ++ [four (qOf s s.d5)], deepest := max s.d5 ((s.ss.length : Int) + 1) }) true ha hw (by fail "ok") (by simp only [if_true]; fail "ok")
inductive MvA (p : Spot) : Int -> Int -> Int -> List Int -> Prop
 | p {v : Int} {j : Nat} (h : 1 <= j /\ j <= 4) (e : seV j (putB v j) = v) : MvA p v p.w p.x ((143 + (j : Int) - 1) :: putB v j)
 | two {v : Int} {i j : Nat} (h : 1 <= j /\ j <= 4) (e : seV j (putB (v / 2) j) = v / 2) (h' : 1 <= i /\ i <= 4) (e' : seV i (putB (v - v / 2) i) = v - v / 2) : MvA p v p.w p.x (((143 + (j : Int) - 1) :: putB (v / 2) j) ++ ((143 + (i : Int) - 1) :: putB (v - v / 2) i))
 | w {v : Int} {j : Nat} (h : 1 <= j /\ j <= 4) (e : seV j (putB v j) = v) : MvA p v v p.x ((148 + (j : Int) - 1) :: putB v j)
 | x {v : Int} {j : Nat} (h : 1 <= j /\ j <= 4) (e : seV j (putB v j) = v) : MvA p v p.w v ((153 + (j : Int) - 1) :: putB v j)
 | w0 : MvA p p.w p.w p.x [147]
 | x0 : MvA p p.x p.w p.x [152]
inductive MvD (p : Spot) : Int -> Int -> Int -> List Int -> Prop
 | p {v : Int} {j : Nat} (h : 1 <= j /\ j <= 4) (e : seV j (putB v j) = v) : MvD p v p.y p.z ((157 + (j : Int) - 1) :: putB v j)
 | two {v : Int} {i j : Nat} (h : 1 <= j /\ j <= 4) (e : seV j (putB (v / 2) j) = v / 2) (h' : 1 <= i /\ i <= 4) (e' : seV i (putB (v - v / 2) i) = v - v / 2) : MvD p v p.y p.z (((157 + (j : Int) - 1) :: putB (v / 2) j) ++ ((157 + (i : Int) - 1) :: putB (v - v / 2) i))
 | y {v : Int} {j : Nat} (h : 1 <= j /\ j <= 4) (e : seV j (putB v j) = v) : MvD p v v p.z ((162 + (j : Int) - 1) :: putB v j)
 | z {v : Int} {j : Nat} (h : 1 <= j /\ j <= 4) (e : seV j (putB v j) = v) : MvD p v p.y v ((167 + (j : Int) - 1) :: putB v j)
 | y0 : MvD p p.y p.y p.z [161]
 | z0 : MvD p p.z p.y p.z [166]
theorem MvA.len {p : Spot} {v w x : Int} {E : List Int} (h : MvA p v w x E) : E.length <= 100 /\ ∀ i ∈ E, 0 <= i /\ i < 256 := by
 induction h with
 | p h e => exact ⟨by simp [putB_len]; lia, oct_cons (by lia) (putB_oct _ _)⟩
 | two h e h' e' => exact ⟨by simp [putB_len]; lia, oct_app (oct_cons (by lia) (putB_oct _ _)) (oct_cons (by lia) (putB_oct _ _))⟩
 | w h e => exact ⟨by simp [putB_len]; lia, oct_cons (by lia) (putB_oct _ _)⟩
 | x h e => exact ⟨by simp [putB_len]; lia, oct_cons (by lia) (putB_oct _ _)⟩
 | w0 => exact ⟨by simp, oct_cons (by lia) oct_nil⟩
 | x0 => exact ⟨by simp, oct_cons (by lia) oct_nil⟩
theorem MvD.len {p : Spot} {v w x : Int} {E : List Int} (h : MvD p v w x E) : E.length <= 100 /\ ∀ i ∈ E, 0 <= i /\ i < 256 := by
 induction h with
 | p h e => exact ⟨by simp [putB_len]; lia, oct_cons (by lia) (putB_oct _ _)⟩
 | two h e h' e' => exact ⟨by simp [putB_len]; lia, oct_app (oct_cons (by lia) (putB_oct _ _)) (oct_cons (by lia) (putB_oct _ _))⟩
 | y h e => exact ⟨by simp [putB_len]; lia, oct_cons (by lia) (putB_oct _ _)⟩
 | z h e => exact ⟨by simp [putB_len]; lia, oct_cons (by lia) (putB_oct _ _)⟩
 | y0 => exact ⟨by simp, oct_cons (by lia) oct_nil⟩
 | z0 => exact ⟨by simp, oct_cons (by lia) oct_nil⟩
theorem MvA.far {v w x : Int} {E : List Int} (h : MvA s.sp v w x E) (hb : Bd k s) (hv : far v) : Mine.far w /\ Mine.far x := by
 have := hb.sp.w
 have := hb.sp.x
 induction h <;> exact ⟨by assumption, by assumption⟩
theorem MvD.far {v w x : Int} {E : List Int} (h : MvD s.sp v w x E) (hb : Bd k s) (hv : far v) : Mine.far w /\ Mine.far x := by
 have := hb.sp.y
 have := hb.sp.z
 induction h <;> exact ⟨by assumption, by assumption⟩
theorem MvA.rd {v w x : Int} {E : List Int} (h : MvA s.sp v w x E) (hb : Bd k s) (hk : k <= 30) (hv : Mine.far v) (kv) (d : Int) : Reads kv E (qOf s d) (qOf { s with sp := ⟨s.sp.h + v, s.sp.v, w, x, s.sp.y, s.sp.z⟩ } d) [] := by
 obtain ⟨a1, a2, a3, a4⟩ := hb.sp.ok (by lia)
 have a5 := hb.sl
 have a6 := hb.rl
 obtain ⟨v1, v2⟩ := hv
 have o1 := qOf_ok hb (by lia) d
 induction h with
 | p h e => exact rd_right h e o1 (by fail "ok")
 | two h e h' e' =>
  have := (rd_right (kv := kv) (q := qOf s d) h e o1 (by fail "ok")).app (rd_right (kv := kv) h' e' (by fail "ok") (by fail "ok"))
  exact this.cast rfl (by unfold qOf; congr 1; lia)
 | w h e => exact rd_rightw h e o1 (by fail "ok")
 | x h e => exact rd_rightx h e o1 (by fail "ok")
 | w0 => exact rd_w0 o1 (by fail "ok")
 | x0 => exact rd_x0 o1 (by fail "ok")
theorem MvD.rd {v w x : Int} {E : List Int} (h : MvD s.sp v w x E) (hb : Bd k s) (hk : k <= 30) (hv : Mine.far v) (kv) (d : Int) : Reads kv E (qOf s d) (qOf { s with sp := ⟨s.sp.h, s.sp.v + v, s.sp.w, s.sp.x, w, x⟩ } d) [] := by
 obtain ⟨a1, a2, a3, a4⟩ := hb.sp.ok (by lia)
 have a5 := hb.sl
 have a6 := hb.rl
 obtain ⟨v1, v2⟩ := hv
 have o1 := qOf_ok hb (by lia) d
 induction h with
 | p h e => exact rd_down h e o1 (by fail "ok")
 | two h e h' e' =>
  have := (rd_down (kv := kv) (q := qOf s d) h e o1 (by fail "ok")).app (rd_down (kv := kv) h' e' (by fail "ok") (by fail "ok"))
  exact this.cast rfl (by unfold qOf; congr 1; lia)
 | y h e => exact rd_downy h e o1 (by fail "ok")
 | z h e => exact rd_downz h e o1 (by fail "ok")
 | y0 => exact rd_y0 o1 (by fail "ok")
 | z0 => exact rd_z0 o1 (by fail "ok")
theorem tr_mvA (hb : Bd k s) (hk : k <= 30) {v w x : Int} {E4 E5 : List Int} (hv : far v) (h4 : MvA s.sp v w x E4) (h5 : MvA s.sp v w x E5) : Tr k s ⟨s.a0, ⟨s.sp.h + v, s.sp.v, w, x, s.sp.y, s.sp.z⟩, s.ss, s.rows, s.font, s.b4 ++ E4, s.b5 ++ E5, s.d4, s.d5⟩ := by
 obtain ⟨hw, hx⟩ := h4.far hb hv
 exact Tr.of hb (hb.sp.addh hv hw hx) (.inl rfl) h4.len.1 h5.len.1 h4.len.2 h5.len.2 (by lia) (fun kv => h4.rd hb hk hv kv _) (fun kv => h5.rd hb hk hv kv _)
theorem tr_mvD (hb : Bd k s) (hk : k <= 30) {v w x : Int} {E4 E5 : List Int} (hv : far v) (h4 : MvD s.sp v w x E4) (h5 : MvD s.sp v w x E5) : Tr k s ⟨s.a0, ⟨s.sp.h, s.sp.v + v, s.sp.w, s.sp.x, w, x⟩, s.ss, s.rows, s.font, s.b4 ++ E4, s.b5 ++ E5, s.d4, s.d5⟩ := by
 obtain ⟨hw, hx⟩ := h4.far hb hv
 exact Tr.of hb (hb.sp.addv hv hw hx) (.inl rfl) h4.len.1 h5.len.1 h4.len.2 h5.len.2 (by lia) (fun kv => h4.rd hb hk hv kv _) (fun kv => h5.rd hb hk hv kv _)
theorem rd_note {kv} {q : PSt} {os : List Int} {r : Nat} (hr : 1 <= r /\ r <= 4) (ho : ∀ i ∈ os, 0 <= i /\ i < 256) (hl : os.length < 256) (o1 : Ok q) : Reads kv ((238 + (r : Int)) :: (putB os.length r ++ os)) q { q with rows := q.rows ++ [.tup [.int 2, .int q.h, .int q.v, .bytes (byteArr os)]] } [] := by
 have e := put_code (c := (os.length : Int)) (r := r) (by lia) hr.1
 have := Step.special (kv := kv) (q := q) (bs := putB os.length r) (b := byteArr os) (by rw [putB_len]; exact hr) (by rw [e, byteArr_size]) o1
 rw [putB_len, octs_byteArr ho] at this
 exact Reads.one this
theorem tr_note (hb : Bd k s) (hk : k <= 30) {os : List Int} {r : Nat} (hr : 1 <= r /\ r <= 4) (ho : ∀ i ∈ os, 0 <= i /\ i < 256) (hl : os.length <= 4) :
  Tr k s ⟨s.a0, s.sp, s.ss, s.rows ++ [.tup [.int 2, .int s.sp.h, .int s.sp.v, .bytes (byteArr os)]], s.font, s.b4 ++ (239 :: (os.length : Int) :: os), s.b5 ++ ((238 + (r : Int)) :: (putB os.length r ++ os)), s.d4, s.d5⟩ := by
 refine Tr.of hb hb.sp.up (.inr ⟨_, rfl, rfl⟩) (by simp; lia) (by simp [putB_len]; lia) (oct_cons (by lia) (oct_cons (by lia) ho)) (oct_cons (by lia) (oct_app (putB_oct _ _) ho)) (by lia) (fun kv => ?_) (fun kv => ?_)
 ·have := rd_note (kv := kv) (q := qOf s s.d4) (r := 1) (by lia) ho (by lia) (qOf_ok hb (by lia) _)
  rw [putB1 (by lia)] at this
  exact this
 ·exact rd_note hr ho (by lia) (qOf_ok hb (by lia) _)
end
end
section
theorem ways {w m : Int} (h : Dg w m) : ∃ k : Nat, (k : Int) < m /\ w = k := ⟨w.toNat, by rw [Int.toNat_of_nonneg h.1]; exact h.2, (Int.toNat_of_nonneg h.1).symm⟩
theorem pw {k : Nat} (h : k <= 3) : (0 < (256 : Int) ^ k /\ (256 : Int) ^ k < 1073741824) /\ ((256 : Int) ^ k).natAbs < 2 ^ 64 := by
 obtain ⟨p0, p1, p2, p3, p4⟩ := pow256
 have : k = 0 \/ k = 1 \/ k = 2 \/ k = 3 := by lia
 rcases this with rfl | rfl | rfl | rfl <;> decide
theorem fits_up {v : Int} {k m : Nat} (h : k <= m) (a : -(128 * 256 ^ (k - 1)) <= v) (b : v < 128 * 256 ^ (k - 1)) : -(128 * 256 ^ (m - 1)) <= v /\ v < 128 * 256 ^ (m - 1) := by
 have e : (256 : Int) ^ (k - 1) <= 256 ^ (m - 1) := Int.ofNat_le.mpr (Nat.pow_le_pow_right (n := 256) (by decide) (Nat.sub_le_sub_right h 1))
 have e := Int.mul_le_mul_of_nonneg_left e (show (0 : Int) <= 128 by decide)
 exact ⟨Int.le_trans (Int.neg_le_neg e) a, Int.lt_of_lt_of_le b e⟩
theorem pw3 {n : Nat} (h : n <= 2) : (1 : Int) <= 256 ^ n /\ (256 : Int) ^ n <= 65536 :=
 ⟨Int.pow_pos (by decide), Int.ofNat_le.mpr (Nat.pow_le_pow_right (n := 256) (by decide) h)⟩
theorem mulb {a b : Int} (h1 : -32 <= a) (h2 : a <= 32) (h3 : 0 <= b) (h4 : b <= 1048576) : far (a * b) :=
 ⟨Int.le_trans (show -33554432 <= -32 * b by lia) (Int.mul_le_mul_of_nonneg_right h1 h3), Int.le_trans (Int.mul_le_mul_of_nonneg_right h2 h3) (show 32 * b <= 33554432 by lia)⟩
theorem mn {k : Nat} {m : Int} (hm : 0 <= m) (h4 : k <= 4) : ∃ p : Nat, min ((k : Int) + m) 4 = p /\ k <= p /\ p <= 4 := by
 rcases Int.le_total ((k : Int) + m) 4 with h | h
 ·exact ⟨k + m.toNat, by rw [Int.min_eq_left h]; lia, Nat.le_add_right _ _, by lia⟩
 ·exact ⟨4, Int.min_eq_right h, h4, Nat.le_refl _⟩
section
variable {X : Wd} (hX : Good X) {l : Hl} {K : W -> Hl -> Prop}
include hX
theorem put_s {v : Int} {k : Nat} {i : Int} (hi : i = (k : Int)) (hk : k <= 4) (h : K (.il (putB v k)) l) : WC2 X 485 [.int v, .int i] l K := by
 subst hi
 refine en485 hX fun κ => ?_
 fail "w"
 refine lc_i (fun r d l' => l' = l /\ ∃ (j : Nat) (ns : List Int), r = rgW ((j : Int) - 1) (-1) j /\ j <= k /\ d = ns.map .int /\ putB v k = ns ++ putB v j) (rg_down (by lia)) ⟨rfl, k, [], rfl, Nat.le_refl _, rfl, rfl⟩ ?_ ?_
 ·rintro d _ ⟨rfl, j, ns, hj, _, rfl, hp⟩
  induction j with
  | zero =>
   rw [show putB v 0 = [] from rfl, List.append_nil] at hp
   refine .inr ⟨ns, rfl, ?_⟩
   rw [<- hp]
   fail "w"
   exact h
  | succ j => cases hj
 ·rintro w r d _ ⟨rfl, j, ns, hj, hjk, rfl, hp⟩
  cases j with
  | zero => cases hj
  | succ j =>
   cases hj
   have := congrArg List.length hp
   rw [putB_len, List.length_append, putB_len] at this
   refine ⟨by rw [List.length_map]; lia, fun env => ?_⟩
   rw [show ((j + 1 : Nat) : Int) - 1 = (j : Int) by lia]
   fail "w"
   refine sd (pw (by lia)).1 ?_
   fail "w"
   exact ⟨rfl, j, ns ++ [v / 256 ^ j % 256], rfl, by lia, by rw [List.map_append]; rfl, by rw [hp, putB_c, List.append_assoc]; rfl⟩
theorem far_s {n : Nat} {src : Addr} {t : Tri} (e : l.at n = some (src, srC t)) (h : ∀ d t', far d -> K (.int d) (l.set n (srC t'))) : WC2 X 492 [.ref src] l K := by
 refine en492 hX fun κ => ?_
 fail "w"
 refine take_s hX e (by decide) fun w t1 hw => ?_
 fail "w"
 refine take_s hX (Hl.at_set e) (by decide) fun c t2 hc => ?_
 rw [Hl.set_set]
 obtain ⟨w0, w1⟩ := hw
 fail "w"
 refine' brLE (fun hw => ?_) fun hw => ?_
 ·have hn : w.toNat <= 2 := by lia
  have hp := pw3 hn
  fail "w"
  refine' brLE (fun hc' => ?_) fun hc' => ?_
  ·fail "w"
   exact h _ _ ⟨by lia, by lia⟩
  ·fail "w"
   exact h _ _ ⟨by lia, by lia⟩
 ·fail "w"
  refine ixA ⟨by lia, by show w - 3 < 5; lia⟩ (by decide) fun v hv => ?_
  obtain ⟨i, rfl, i0, i1⟩ := inZ (a := 0) (b := 1048576) rfl hv
  fail "w"
  obtain ⟨c0, c1⟩ := hc
  exact h _ _ (mulb (by lia) (by lia) i0 i1)
theorem lmove_s {f v m : Int} (hv : -2147483648 <= v /\ v < 2147483648) (hm : 0 <= m /\ m <= 4) (h : ∀ k : Nat, 1 <= k /\ k <= 4 -> seV k (putB v k) = v -> K (.il ((f + (k : Int) - 1) :: putB v k)) l) : WC2 X 499 [.int f, .int v, .int m] l K := by
 refine en499 hX fun κ => ?_
 fail "w"
 refine whl_i (fun j L C l' => ∃ k : Nat, j = 4 - k /\ (1 <= k /\ k <= 4) /\ L = .s (.int f) (.s (.int v) (.s (.int m) (.s (.int k) .nil))) /\ C = .nil /\ l' = l) 3 ⟨1, rfl, by decide, rfl, rfl, rfl⟩ ?_
 rintro j L C l' ⟨k, rfl, ⟨hk1, hk4⟩, rfl, rfl, rfl⟩
 have hp := (pw (k := k - 1) (by lia)).2
 rw [<- show ((k : Int) - 1).toNat = k - 1 by lia] at hp
 fail "w"
 refine' brLE (fun g1 => ?_) fun g1 => ?_
 ·fail "w"
  refine' brLE (fun g2 => ?_) fun g2 => ?_
  ·rw [show ((k : Int) - 1).toNat = k - 1 by lia] at g1 g2
   have hk' : ∀ k' : Nat, k <= k' -> k' <= 4 -> seV k' (putB v k') = v := fun k' h1 h2 => (fits_up h1 (by lia) (Int.lt_of_add_one_le g2)).elim fun a b => seV_put (by lia) h2 a b
   fail "w"
   fail "w"
   obtain ⟨p, ep, p1, p2⟩ := mn hm.1 hk4
   rw [ep]
   refine put_s hX rfl p2 ?_
   have hn := putB_len v p
   fail "w"
   exact h p ⟨Nat.le_trans hk1 p1, p2⟩ (hk' _ p1 p2)
  ·have : k ≠ 4 := fun z => by subst z; have : v ≥ 2147483648 := Int.le_of_lt_add_one g2; lia
   fail "w"
   exact .next [] Sub.rfl ⟨by lia, k + 1, rfl, by lia, rfl, rfl, rfl⟩
 ·have : k ≠ 4 := fun z => by subst z; have : v < -2147483648 := g1; lia
  fail "w"
  exact .next [] Sub.rfl ⟨by lia, k + 1, rfl, by lia, rfl, rfl, rfl⟩
end
end
section
structure BA where
 src : Addr
 pg : Addr
 a1 : Addr
 a2 : Addr
 a4 : Addr
 a5 : Addr
noncomputable abbrev pgL (A : BA) (s : PgS) (cs : List Int) : List W := [.ref s.a0, .ref A.a1, .ref A.a2, .int s.font, .ref A.a4, .ref A.a5, .int s.d4, .int s.d5, .il cs]
noncomputable def hB (A : BA) (t : Tri) (s : PgS) (cs : List Int) (R : Hl) : Hl := .c s.a0 (.il s.sp.l) (.c A.pg (.list (pgL A s cs)) (.c A.a5 (.il s.b5) (.c A.a4 (.il s.b4) (.c A.a2 (.list s.rows) (.c A.a1 (.list (s.ss.map fun p => .ref p.1)) (.c A.src (srC t) R))))))
section
variable {X : Wd} (hX : Good X) {R : Hl} {K : W -> Hl -> Prop} {A : BA} {t : Tri} {s : PgS} {cs : List Int} {k : Nat}
include hX
theorem between_s {os : List Int} (h5 : s.b5.length <= 100000) (h6 : s.ss.length <= 100000) (ho : os.length <= 1000)
  (h : K .none (hB A t { s with b5 := s.b5 ++ (141 :: (os ++ [142])), d5 := max s.d5 ((s.ss.length : Int) + 1) } cs R)) : WC2 X 506 [.ref A.pg, .il os] (hB A t s cs R) K := by
 refine en506 hX fun κ => ?_
 fail "w"
 rw [List.length_map]
 exact h
theorem idle_s (hb : Bd k s) (hk : k <= 30) (h : ∀ t' s', Tr k s s' -> K .none (hB A t' s' cs R)) : WC2 X 513 [.ref A.src, .ref A.pg] (hB A t s cs R) K := by
 refine en513 hX fun κ => ?_
 have h5 := hb.l5
 have h6 := hb.sl
 fail "w"
 refine take_s hX (n := 6) rfl (by decide) fun w t1 hw => ?_
 obtain ⟨w0, w1⟩ := hw
 fail "w"
 refine' brLE (fun hw => ?_) fun hw => ?_
 ·fail "w"
  exact h t1 _ (tr_nop hb hk)
 ·fail "w"
  refine' brD (fun hw2 => ?_) fun hw2 => ?_
  ·fail "w"
   exact h t1 _ (tr_thin hb hk)
  ·fail "w"
   refine' brLE (fun hw3 => ?_) fun hw3 => ?_
   ·fail "w"
    refine take_s hX (n := 6) rfl (by decide) fun o1 t2 h1 => ?_
    fail "w"
    refine take_s hX (n := 6) rfl (by decide) fun o2 t3 h2 => ?_
    fail "w"
    refine' brD (fun hw4 => ?_) fun hw4 => ?_
    ·fail "w"
     refine between_s hX (t := t3) (by lia) (by lia) (Nat.zero_le _) ?_
     fail "w"
     exact h t3 _ (tr_betw0 hb hk)
    ·fail "w"
     refine ixA ⟨by lia, by show _ < (2 : Int); lia⟩ (by decide) fun va ha => ?_
     fail "w"
     refine ixA ⟨by lia, by show _ < (2 : Int); lia⟩ (by decide) fun vb hb' => ?_
     simp only [List.mem_cons, List.not_mem_nil, or_false] at ha hb'
     have key : ∀ a b : Int, a = 148 \/ a = 153 -> b = 162 \/ b = 167 -> WC2 X 506 [.ref A.pg, .il [a, o1, b, o2]] (hB A t3 s cs R) fun v l => ru X κ (RQ K) (.pop .done) [v] (.s (.ref A.src) (.s (.ref A.pg) (.s (.int w) (.s (.int o1) (.s (.int o2) .nil))))) .nil l := fun a b ha hb' => by
      refine between_s hX (t := t3) (by lia) (by lia) (by simp) ?_
      fail "w"
      exact h t3 _ (tr_betw4 hb hk ha hb' h1 h2)
     rcases ha with rfl | rfl <;> rcases hb' with rfl | rfl <;> fail "w"
     ·exact key _ _ (.inl rfl) (.inl rfl)
     ·exact key _ _ (.inl rfl) (.inr rfl)
     ·exact key _ _ (.inr rfl) (.inl rfl)
     ·exact key _ _ (.inr rfl) (.inr rfl)
   ·fail "w"
    exact h t1 s (Tr.same hb)
end
end
section
noncomputable def wds (k : Int) : List (Int × W) := if k = 3 then [(65, .int 5), (97, .int (-3)), (200, .int 70000)] else [(66, .int 9), (98, .int 0), (255, .int 1048573)]
section
variable {X : Wd} (hX : Good X) {l R : Hl} {K : W -> Hl -> Prop} {A : BA} {t : Tri} {s : PgS} {cs : List Int} {k : Nat}
include hX
theorem widths_s {f : Int} (hf : isF f) (h : ∀ d, K (.ref d) (.c d (.dict (wds f)) l)) : WC2 X 480 [.int f] l K := by
 refine .sub (en480 hX fun κ => ?_)
 fail "w"
 intro a
 fail "w"
 intro b
 fail "w"
 intro c
 fail "w"
 rcases hf with rfl | rfl
 ·refine ⟨_, rfl, ?_⟩
  fail "w"
  exact ⟨_, .tail (.tail .rfl), h a⟩
 ·refine ⟨_, rfl, ?_⟩
  fail "w"
  exact ⟨_, .tail (.cons (.tail .rfl)), h b⟩
omit hX in
theorem wds_fcs {f c : Int} (h : c ∈ (wds f).map (·.1)) : ∃ w, lkG (wds f) c = some (.int w) /\ lkG (fcs f) c = some (crow w) := by
 unfold wds fcs at *
 split at h <;> rename_i hf
 ·rw [if_pos hf, if_pos hf]
  rcases List.mem_cons.mp h with rfl | h
  ·exact ⟨_, rfl, rfl⟩
  rcases List.mem_cons.mp h with rfl | h
  ·exact ⟨_, rfl, rfl⟩
  cases List.mem_singleton.mp h
  exact ⟨_, rfl, rfl⟩
 ·rw [if_neg hf, if_neg hf]
  rcases List.mem_cons.mp h with rfl | h
  ·exact ⟨_, rfl, rfl⟩
  rcases List.mem_cons.mp h with rfl | h
  ·exact ⟨_, rfl, rfl⟩
  cases List.mem_singleton.mp h
  exact ⟨_, rfl, rfl⟩
omit hX in
theorem wds_len (f : Int) : (wds f).length = 3 := by unfold wds; split <;> rfl
omit hX in
theorem crow_lk' {k c w : Int} (h : lkG (fcs k) c = some (crow w)) : -3 <= w /\ w <= 1048573 /\ c <= 255 /\ 0 <= c := by
 obtain ⟨w', e, r⟩ := crow_lk h
 cases e
 exact r
theorem lletter_s (hb : Bd k s) (hk : k <= 30) (hf : isF s.font) (h : ∀ t' s', Tr k s s' -> K .none (hB A t' s' cs R)) : WC2 X 520 [.ref A.src, .ref A.pg] (hB A t s cs R) K := by
 have h4 := hb.l4
 have h5 := hb.l5
 have h6 := hb.rl
 have h7 := hb.sl
 have hwl := wds_len s.font
 refine .sub (en520 hX fun κ => ?_)
 fail "w"
 refine widths_s hX hf fun d1 => ?_
 fail "w"
 intro ns hns
 have hl := hns.1.length_eq
 rw [List.length_map, wds_len] at hl
 fail "w"
 refine take_s hX (n := 7) rfl (by decide) fun i t1 hi => ?_
 obtain ⟨i0, i1⟩ := hi
 fail "w"
 refine ixA ⟨i0, by lia⟩ (by lia) fun c hc => ?_
 obtain ⟨w, hw, hcr⟩ := wds_fcs (hns.1.mem_iff.mp hc)
 fail "w"
 refine take_s hX (n := 7) rfl (by decide) fun y t2 hy => ?_
 fail "w"
 refine take_s hX (n := 7) rfl (by decide) fun m t3 hm => ?_
 fail "w"
 refine take_s hX (n := 7) rfl (by decide) fun r t4 hr => ?_
 obtain ⟨r, r1, rfl⟩ := ways hr
 fail "w"
 refine widths_s hX hf fun d2 => ?_
 fail "w"
 refine ⟨_, hw, ?_⟩
 obtain ⟨w0, w1, c1, c0⟩ := crow_lk' hcr
 have hp := putB_len c (2 + r)
 fail "w"
 refine' brLE (fun hm => ?_) fun hm => ?_
 ·fail "w"
  refine' brLE (fun h128 => ?_) (fun h128 => ?_) <;> fail "w" <;> refine' brLE (fun hy => ?_) fun hy => ?_
  ·fail "w"
   refine put_s (k := 2 + r) hX rfl (by lia) ?_
   fail "w"
   exact ⟨_, .tail (.tail .rfl), h t4 _ (tr_letT hb hk hf hcr (.inl ⟨rfl, h128⟩) (.inl ⟨2 + r, by lia, by lia, rfl⟩))⟩
  ·fail "w"
   refine lmove_s hX (by lia) (by lia) fun j hj hs => ?_
   have hq := putB_len w j
   fail "w"
   exact ⟨_, .tail (.tail .rfl), h t4 _ (tr_letT hb hk hf hcr (.inl ⟨rfl, h128⟩) (.inr ⟨j, hj.1, hj.2, hs, rfl⟩))⟩
  ·fail "w"
   refine put_s (k := 2 + r) hX rfl (by lia) ?_
   fail "w"
   exact ⟨_, .tail (.tail .rfl), h t4 _ (tr_letT hb hk hf hcr (.inr rfl) (.inl ⟨2 + r, by lia, by lia, rfl⟩))⟩
  ·fail "w"
   refine lmove_s hX (by lia) (by lia) fun j hj hs => ?_
   have hq := putB_len w j
   fail "w"
   exact ⟨_, .tail (.tail .rfl), h t4 _ (tr_letT hb hk hf hcr (.inr rfl) (.inr ⟨j, hj.1, hj.2, hs, rfl⟩))⟩
 ·fail "w"
  refine' brLE (fun hy => ?_) fun hy => ?_
  ·fail "w"
   refine put_s (k := 2 + r) hX rfl (by lia) ?_
   fail "w"
   exact ⟨_, .tail (.tail .rfl), h t4 _ (tr_letF hb hk hf hcr (.inl ⟨2 + r, by lia, by lia, rfl, rfl⟩))⟩
  ·fail "w"
   refine .pre (.tail (.tail .rfl)) (between_s hX (t := t4) (s := ⟨s.a0, s.sp, s.ss, s.rows ++ [.tup [.int 0, .int s.sp.h, .int s.sp.v, .int s.font, .int c]], s.font, s.b4 ++ [133, c], s.b5, s.d4, s.d5⟩) (os := [128, c]) (by show s.b5.length <= _; lia) (by show s.ss.length <= _; lia) (by decide : 2 <= 1000) ?_)
   fail "w"
   exact ⟨_, .rfl, h t4 _ (tr_letF hb hk hf hcr (.inr ⟨rfl, rfl⟩))⟩
end
end
section
theorem far_abs {a : Int} (h : far a) : far (if a < 0 then -a else a) := by
 obtain ⟨h1, h2⟩ := h
 split
 ·exact ⟨by lia, by lia⟩
 ·exact ⟨h1, h2⟩
section
variable {X : Wd} (hX : Good X) {l R : Hl} {K : W -> Hl -> Prop} {A : BA} {t : Tri} {s : PgS} {cs : List Int} {k : Nat}
include hX
theorem lruled_s (hb : Bd k s) (hk : k <= 30) (h : ∀ t' s', Tr k s s' -> K .none (hB A t' s' cs R)) : WC2 X 527 [.ref A.src, .ref A.pg] (hB A t s cs R) K := by
 have h4 := hb.l4
 have h5 := hb.l5
 have h6 := hb.rl
 have h7 := hb.sl
 refine en527 hX fun κ => ?_
 have g1 : ∀ (a b m : Int) t4 rows', far a -> far b -> (rows' = if 0 < a /\ 0 < b then s.rows ++ [.tup [.int 1, .int s.sp.h, .int s.sp.v, .int a, .int b]] else s.rows) ->
   ru X κ (RQ K) c527_1 [] (.s (.ref A.src) (.s (.ref A.pg) (.s (.int a) (.s (.int b) (.s (.bool (decide (m = 1))) (.s (.il (putB a 4 ++ putB b 4)) .nil)))))) .nil (hB A t4 { s with rows := rows' } cs R) := by
  intro a b m t4 rows' ha hb' hr
  have hn := putB_len a 4
  have hn2 := putB_len b 4
  fail "w"
  refine' brD (fun hm => ?_) fun hm => ?_
  ·fail "w"
   refine lmove_s hX (by have := hb'.1; have := hb'.2; lia) (by decide) fun j hj hs => ?_
   have hq := putB_len b j
   fail "w"
   exact h t4 _ (tr_ruleT hb hk ha hb' hr hj hs)
  ·fail "w"
   refine between_s hX (s := ⟨s.a0, s.sp, s.ss, rows', s.font, s.b4 ++ (137 :: (putB a 4 ++ putB b 4)), s.b5, s.d4, s.d5⟩) (t := t4) (os := 132 :: (putB a 4 ++ putB b 4)) (by show s.b5.length <= _; lia) (by show s.ss.length <= _; lia) (by rw [List.length_cons, List.length_append]; lia) ?_
   fail "w"
   exact h t4 _ (tr_ruleF hb hk ha hb' hr)
 have g2 : ∀ (a b m : Int) t4, far a -> far b -> ru X κ (RQ K) c527_2 [] (.s (.ref A.src) (.s (.ref A.pg) (.s (.int a) (.s (.int b) (.s (.bool (decide (m = 1))) (.o .nil)))))) .nil (hB A t4 s cs R) := by
  intro a b m t4 ha hb'
  fail "w"
  refine put_s (k := 4) hX rfl (Nat.le_refl _) ?_
  fail "w"
  refine put_s (k := 4) hX rfl (Nat.le_refl _) ?_
  have hn := putB_len a 4
  have hn2 := putB_len b 4
  fail "w"
  refine' brLE (fun h0 => ?_) fun h0 => ?_
  ·fail "w"
   refine' brLE (fun h1 => ?_) fun h1 => ?_
   ·iterate 8 (refine' stI ?_; fail "r")
    exact g1 a b m t4 _ ha hb' (if_pos ⟨h0, h1⟩).symm
   ·exact g1 a b m t4 _ ha hb' (if_neg fun z => by lia).symm
  ·exact g1 a b m t4 _ ha hb' (if_neg fun z => by lia).symm
 fail "w"
 refine far_s hX (n := 6) rfl fun a t1 ha => ?_
 fail "w"
 refine far_s hX (n := 6) rfl fun b t2 hb' => ?_
 fail "w"
 refine take_s hX (n := 6) rfl (by decide) fun m t3 hm => ?_
 fail "w"
 refine take_s hX (n := 6) rfl (by decide) fun y t4 hy => ?_
 fail "w"
 refine' brLE (fun h0 => ?_) fun h0 => ?_
 ·exact g2 _ _ m t4 (far_abs ha) (far_abs hb')
 ·exact g2 a b m t4 ha hb'
omit hX in
theorem rgW_len {x y : Int} : ∀ {k : Nat}, (rgW x y k).length = k
 | 0 => rfl
 | k + 1 => congrArg (· + 1) (rgW_len (k := k))
theorem lnoted_s (hb : Bd k s) (hk : k <= 30) (h : ∀ t' s', Tr k s s' -> K .none (hB A t' s' cs R)) : WC2 X 551 [.ref A.src, .ref A.pg] (hB A t s cs R) K := by
 have h4 := hb.l4
 have h5 := hb.l5
 have h6 := hb.rl
 refine en551 hX fun κ => ?_
 fail "w"
 refine take_s hX (n := 6) rfl (by decide) fun a t1 ha => ?_
 obtain ⟨a, a1, rfl⟩ := ways ha
 fail "w"
 refine lc_i (fun r d l' => ∃ (ns : List Int) (t' : Tri), d = ns.map .int /\ (∀ i ∈ ns, 0 <= i /\ i < 256) /\ ns.length + r.length = a /\ l' = hB A t' s cs R) (rg_up (k := a) (Int.zero_add _).symm (by decide) (by lia)) ⟨[], t1, rfl, fun i h => nil_no h, by rw [rgW_len]; exact Nat.zero_add _, rfl⟩ ?_ ?_
 ·rintro d _ ⟨os, t2, rfl, ho, hl, rfl⟩
  refine .inr ⟨os, rfl, ?_⟩
  have hl : os.length = a := hl
  fail "w"
  refine take_s hX (n := 6) rfl (by decide) fun r t3 hr => ?_
  obtain ⟨r, r1, rfl⟩ := ways hr
  fail "w"
  rw [List.length_map]
  refine put_s (k := 1 + r) hX rfl (by lia) ?_
  have hn := putB_len os.length (1 + r)
  fail "w"
  exact h t3 _ (tr_note hb hk (r := 1 + r) (by lia) ho (by lia))
 ·rintro v r d _ ⟨os, t2, rfl, ho, hl, rfl⟩
  rw [List.length_cons] at hl
  refine ⟨by rw [List.length_map]; lia, fun env => ?_⟩
  fail "w"
  refine take_s hX (n := 6) rfl (by decide) fun i t3 hi => ?_
  fail "w"
  refine ixA ⟨hi.1, hi.2⟩ (by decide) fun v hv => ?_
  simp only [List.mem_cons, List.not_mem_nil, or_false] at hv
  have key : ∀ x : Int, 0 <= x /\ x < 256 -> ∃ (ns : List Int) (t' : Tri), os.map W.int ++ [.int x] = ns.map .int /\ (∀ i ∈ ns, 0 <= i /\ i < 256) /\ ns.length + r.length = a /\ (hB A t2 s cs R).set 6 (srC t3) = hB A t' s cs R := fun x hx =>
   ⟨os ++ [x], t3, by rw [List.map_append]; rfl, oct_app ho (oct_cons hx oct_nil), by rw [List.length_append, List.length_singleton]; lia, rfl⟩
  rcases hv with rfl | rfl | rfl | rfl <;> fail "w" <;> exact key _ (by decide)
end
end
section
inductive Mw (p : Spot) (a w : Nat) (v : Int) : List Int -> Prop
 | f {j : Nat} (h : 1 <= j /\ j <= 4) (e : seV j (putB v j) = v) : Mw p a w v ((143 + 14 * (a : Int) + 5 * (w : Int) + (j : Int) - 1) :: putB v j)
 | two {i j : Nat} (hw : w = 0) (h : 1 <= j /\ j <= 4) (e : seV j (putB (v / 2) j) = v / 2) (h' : 1 <= i /\ i <= 4) (e' : seV i (putB (v - v / 2) i) = v - v / 2) : Mw p a w v (((143 + 14 * (a : Int) + (j : Int) - 1) :: putB (v / 2) j) ++ ((143 + 14 * (a : Int) + (i : Int) - 1) :: putB (v - v / 2) i))
 | o (hw : 1 <= w) (e : p.l[2 * a + w + 1]? = some v) : Mw p a w v [143 + 14 * (a : Int) + 5 * (w : Int) - 1]
 | q {j : Nat} (hw : 1 <= w) (e : p.l[2 * a + w + 1]? = some v) (h : 1 <= j /\ j <= 4) (e' : seV j (putB v j) = v) : Mw p a w v ((143 + 14 * (a : Int) + (j : Int) - 1) :: putB v j)
noncomputable def wv (w : Nat) (v : Int) (p : Int × Int) : Int × Int := match w with
 | 0 => p
 | 1 => (v, p.2)
 | _ => (p.1, v)
theorem Mw.A {p : Spot} {w : Nat} {v : Int} {E : List Int} (h : Mw p 0 w v E) (hw : w < 3) : MvA p v (wv w v (p.w, p.x)).1 (wv w v (p.w, p.x)).2 E := by
 have : w = 0 \/ w = 1 \/ w = 2 := by lia
 induction h with
 | f h e => rcases this with rfl | rfl | rfl <;> first | exact .p h e | exact .w h e | exact .x h e
 | two hw h e h' e' => subst hw; exact .two h e h' e'
 | o hw e =>
  rcases this with rfl | rfl | rfl
  ·cases hw
  ·cases e; exact .w0
  ·cases e; exact .x0
 | q hw e h e' =>
  rcases this with rfl | rfl | rfl
  ·cases hw
  ·cases e; exact .p h e'
  ·cases e; exact .p h e'
theorem Mw.D {p : Spot} {w : Nat} {v : Int} {E : List Int} (h : Mw p 1 w v E) (hw : w < 3) : MvD p v (wv w v (p.y, p.z)).1 (wv w v (p.y, p.z)).2 E := by
 have : w = 0 \/ w = 1 \/ w = 2 := by lia
 induction h with
 | f h e => rcases this with rfl | rfl | rfl <;> first | exact .p h e | exact .y h e | exact .z h e
 | two hw h e h' e' => subst hw; exact .two h e h' e'
 | o hw e =>
  rcases this with rfl | rfl | rfl
  ·cases hw
  ·cases e; exact .y0
  ·cases e; exact .z0
 | q hw e h e' =>
  rcases this with rfl | rfl | rfl
  ·cases hw
  ·cases e; exact .p h e'
  ·cases e; exact .p h e'
noncomputable def Spot.mv (p : Spot) (a w : Nat) (v : Int) : Spot := match a with
 | 0 => ⟨p.h + v, p.v, (wv w v (p.w, p.x)).1, (wv w v (p.w, p.x)).2, p.y, p.z⟩
 | _ => ⟨p.h, p.v + v, p.w, p.x, (wv w v (p.y, p.z)).1, (wv w v (p.y, p.z)).2⟩
theorem Spot.mv_l {p : Spot} {a w : Nat} {v x : Int} (ha : a < 2) (hw : w < 3) (e : p.l[a]? = some x) : (p.mv a w v).l = (if 0 < w then p.l.set (2 * a + w + 1) v else p.l).set a (x + v) := by
 have h1 : a = 0 \/ a = 1 := by lia
 have h2 : w = 0 \/ w = 1 \/ w = 2 := by lia
 rcases h1 with rfl | rfl <;> cases e <;> rcases h2 with rfl | rfl | rfl <;> rfl
theorem Spot.mv_o {p : Spot} {a w : Nat} {v x : Int} (ha : a < 2) (hw : 1 <= w /\ w < 3) (e : p.l[a]? = some x) (e' : p.l[2 * a + w + 1]? = some v) : (p.mv a w v).l = p.l.set a (x + v) := by
 have h1 : a = 0 \/ a = 1 := by lia
 have h2 : w = 1 \/ w = 2 := by lia
 rcases h1 with rfl | rfl <;> cases e <;> rcases h2 with rfl | rfl <;> cases e' <;> rfl
theorem Spot.get {p : Spot} {i : Nat} (h : i < 6) : ∃ x, p.l[i]? = some x := ⟨p.l[i], List.getElem?_eq_getElem h⟩
theorem SpB.get {k : Nat} {p : Spot} (h : SpB k p) {i : Nat} {x : Int} (hi : 2 <= i) (e : p.l[i]? = some x) : far x := by
 have h6 : i < 6 := (List.getElem?_eq_some_iff.mp e).1
 have h1 : i = 2 \/ i = 3 \/ i = 4 \/ i = 5 := by lia
 rcases h1 with rfl | rfl | rfl | rfl <;> cases e
 ·exact h.w
 ·exact h.x
 ·exact h.y
 ·exact h.z
theorem tr_mw {k : Nat} {s : PgS} (hb : Bd k s) (hk : k <= 30) {a w : Nat} {v : Int} {E4 E5 : List Int} (ha : a < 2) (hw : w < 3) (hv : far v) (h4 : Mw s.sp a w v E4) (h5 : Mw s.sp a w v E5) : Tr k s ⟨s.a0, s.sp.mv a w v, s.ss, s.rows, s.font, s.b4 ++ E4, s.b5 ++ E5, s.d4, s.d5⟩ := by
 have h1 : a = 0 \/ a = 1 := by lia
 rcases h1 with rfl | rfl
 ·exact tr_mvA hb hk hv (h4.A hw) (h5.A hw)
 ·exact tr_mvD hb hk hv (h4.D hw) (h5.D hw)
section
variable {X : Wd} (hX : Good X) {l R : Hl} {K : W -> Hl -> Prop} {A : BA} {t : Tri} {s : PgS} {cs : List Int} {k : Nat}
include hX
theorem lmoved_s (hb : Bd k s) (hk : k <= 30) (h : ∀ t' s', Tr k s s' -> K .none (hB A t' s' cs R)) : WC2 X 534 [.ref A.src, .ref A.pg] (hB A t s cs R) K := by
 have h4 := hb.l4
 have h5 := hb.l5
 refine en534 hX fun κ => ?_
 fail "w"
 refine take_s hX (n := 6) rfl (by decide) fun a t1 ha => ?_
 obtain ⟨a, a1, rfl⟩ := ways ha
 fail "w"
 refine take_s hX (n := 6) rfl (by decide) fun w t2 hw => ?_
 obtain ⟨w, w1, rfl⟩ := ways hw
 fail "w"
 refine take_s hX (n := 6) rfl (by decide) fun m t3 hm => ?_
 obtain ⟨x, hx⟩ := Spot.get (p := s.sp) (i := a) (by lia)
 have hs : ∀ i v, (0 <= (a : Int) /\ (a : Int) < ((s.sp.l.set i v).length : Int)) /\ (s.sp.l.set i v).length <= 10000000 := fun i v => by rw [List.length_set]; exact ⟨⟨by lia, by show (a : Int) < 6; lia⟩, (by decide : 6 <= 10000000)⟩
 have low : ∀ w : Nat, w < 3 -> ru X κ (RQ K) c534_5 [] (.s (.ref A.src) (.s (.ref A.pg) (.s (.int a) (.s (.int w) (.s (.int m) (.s (.ref s.a0) (.s (.int (143 + 14 * (a : Int))) (.o .nil)))))))) .nil (hB A t3 s cs R) := by
  intro w hw
  fail "w"
  refine far_s hX (n := 6) rfl fun v t4 hv => ?_
  have v1 := hv.1
  have v2 := hv.2
  fail "w"
  refine lmove_s hX (by lia) (by decide) fun j hj e => ?_
  have hq := putB_len v j
  fail "w"
  have fin : ∀ E5 : List Int, E5.length <= 10 -> Mw s.sp a w v E5 -> ru X κ (RQ K) c534_3 [.il E5, .ref A.a5] (.s (.ref A.src) (.s (.ref A.pg) (.s (.int a) (.s (.int w) (.s (.int m) (.s (.ref s.a0) (.s (.int (143 + 14 * (a : Int))) (.s (.int v) .nil)))))))) .nil
    (hB A t4 { s with b4 := s.b4 ++ ((143 + 14 * (a : Int) + 5 * (w : Int) + (j : Int) - 1) :: putB v j) } cs R) := by
   intro E5 h6 h7
   have h := h t4 _ (tr_mw hb hk (by lia) hw hv (.f hj e) h7)
   dsimp only [hB] at h
   rw [Spot.mv_l (by lia) hw hx] at h
   fail "w"
   refine' brLE (fun h0 => ?_) fun h0 => ?_
   ·rw [if_pos (by lia)] at h
    fail "w"
    have hi : (2 * (a : Int) + (w : Int) + 1).toNat = 2 * a + w + 1 := by lia
    rw [hi]
    refine ixI (v := x) (by lia) (by lia) ((List.getElem?_set_ne (by lia : 2 * a + w + 1 ≠ a)).trans hx) ?_
    fail "w"
    refine sd (hs _ _) ?_
    fail "w"
    exact h
   ·rw [if_neg (by lia)] at h
    fail "w"
    refine ixI (by lia) (by lia) hx ?_
    fail "w"
    exact h
  refine' brD (fun h0 => ?_) fun h0 => ?_
  ·have h0 : w = 0 := by lia
   fail "w"
   refine' brD (fun h1 => ?_) fun h1 => ?_
   ·fail "w"
    refine lmove_s hX (by lia) (by decide) fun i hi e' => ?_
    fail "w"
    refine lmove_s hX (by lia) (by decide) fun l hl e'' => ?_
    have q1 := putB_len (v / 2) i
    have q2 := putB_len (v - v / 2) l
    refine' stI ?_
    fail "r"
    exact fin _ (by simp only [List.length_append, List.length_cons, List.length_cons]; lia) (.two h0 hi e' hl e'')
   ·fail "w"
    refine lmove_s hX (by lia) (by obtain ⟨m0, m1⟩ := hm; lia) fun i hi e' => ?_
    exact fin _ (by rw [List.length_cons, putB_len]; lia) (.f hi e')
  ·fail "w"
   refine lmove_s hX (by lia) (by obtain ⟨m0, m1⟩ := hm; lia) fun i hi e' => ?_
   exact fin _ (by rw [List.length_cons, putB_len]; lia) (.f hi e')
 fail "w"
 refine' brLE (fun h2 => ?_) fun h2 => ?_
 ·obtain ⟨u, rfl⟩ : ∃ u, w = u + 2 := ⟨w - 2, by lia⟩
  obtain ⟨y, hy⟩ := Spot.get (p := s.sp) (i := 2 * a + u + 1) (by lia)
  have ex : 2 * (a : Int) + ((u + 2 : Nat) : Int) - 1 = 2 * (a : Int) + (u : Int) + 1 := by lia
  fail "w"
  simp only [ex]
  refine ixI (by lia) (by lia) hy ?_
  fail "w"
  refine' brD (fun h0 => ?_) fun h0 => ?_
  ·have h := low u (by lia)
   rw [show (u : Int) = ((u + 2 : Nat) : Int) - 2 by lia] at h
   refine' stI ?_
   exact Stp.get h
  ·have fy := hb.sp.get (by lia) hy
   have f1 := fy.1
   have f2 := fy.2
   fail "w"
   rw [ex]
   refine ixI (by lia) (by lia) hy ?_
   have q1 : 143 + 14 * (a : Int) + 5 * ((u + 2 : Nat) : Int) - 11 = 143 + 14 * (a : Int) + 5 * (u : Int) - 1 := by lia
   have h : ∀ E5, Mw s.sp a u y E5 -> _ := fun E5 q => by
    have h := h t3 _ (tr_mw hb hk (by lia) (by lia) fy (.o (by lia) hy) q)
    dsimp only [hB] at h
    simp only [Spot.mv_o (by lia) (by lia) hx hy] at h
    exact h
   fail "w"
   rw [q1]
   refine' brD (fun h1 => ?_) fun h1 => ?_
   ·fail "w"
    rw [q1]
    refine ixI (by lia) (by lia) hx ?_
    fail "w"
    exact h _ (.o (by lia) hy)
   ·obtain ⟨m0, m1⟩ := hm
    fail "w"
    refine' brD (fun h3 => ?_) fun h3 => ?_
    ·fail "w"
     refine lmove_s hX (by lia) (by lia) fun i hi e => ?_
     have q3 := putB_len y i
     fail "w"
     refine ixI (by lia) (by lia) hx ?_
     fail "w"
     exact h _ (.q (by lia) hy hi e)
    ·fail "w"
     simp only [show 143 + 14 * (a : Int) + 5 * ((u + 2 : Nat) : Int) - 10 = 143 + 14 * (a : Int) + 5 * (u : Int) by lia]
     refine lmove_s hX (by lia) (by lia) fun i hi e => ?_
     have q3 := putB_len y i
     fail "w"
     refine ixI (by lia) (by lia) hx ?_
     fail "w"
     exact h _ (.f hi e)
 ·exact low w (by lia)
end
end
section
structure TEnt where
 nr : Int
 rest : List Int
 row : W
noncomputable abbrev TEnt.kv (t : TEnt) : Int × W := (t.nr, .tup [.il t.rest, t.row])
noncomputable abbrev trows (T : List TEnt) : List (Int × W) := T.map fun t => (t.nr, t.row)
structure TOk (t : TEnt) : Prop where
 f : isF t.nr
 r : ∀ room : Nat, 1 <= room -> room <= 4 -> FRest room t.nr t.row (putB t.nr room ++ t.rest)
 o : ∀ i ∈ t.rest, 0 <= i /\ i < 256
 l : t.rest.length <= 30
structure TdA where
 tl : Addr
 td : Addr
 t1 : Addr
noncomputable def hT (D : TdA) (T : List TEnt) (b1 : List Int) (R : Hl) : Hl := .c D.td (.dict (T.map TEnt.kv)) (.c D.t1 (.il b1) (.c D.tl (.list [.ref D.td, .ref D.t1]) R))
theorem lk_map_none {T : List TEnt} {k : Int} (h : ∀ t ∈ T, t.nr ≠ k) : lkG (T.map TEnt.kv) k = none := by
 induction T with
 | nil => rfl
 | cons t T ih =>
  refine (if_neg (h t (.head _))).trans ?_
  exact ih fun t' ht => h t' (.tail _ ht)
theorem lk_map_some {T : List TEnt} {k : Int} {t : TEnt} (ht : t ∈ T) (e : t.nr = k) : ∃ v, lkG (T.map TEnt.kv) k = some v := by
 induction T with
 | nil => cases ht
 | cons t' T ih =>
  by_cases hk : t'.nr = k
  ·exact ⟨_, if_pos hk⟩
  ·show ∃ v, (if t'.nr = k then _ else lkG (T.map TEnt.kv) k) = some v
   rw [if_neg hk]
   rcases List.mem_cons.mp ht with rfl | ht
   ·exact absurd e hk
   ·exact ih ht
inductive Ch0 (k : Int) (s : PgS) (T : List TEnt) (b1 : List Int) : PgS -> List TEnt -> List Int -> Prop
 | old {t : TEnt} (ht : t ∈ T) (e : t.nr = k) : Ch0 k s T b1 s T b1
 | here {t : TEnt} {m : Nat} (hn : ∀ t ∈ T, t.nr ≠ k) (e : t.nr = k) (ok : TOk t) (hm : 1 <= m /\ m <= 4) : Ch0 k s T b1 ⟨s.a0, s.sp, s.ss, s.rows, s.font, s.b4 ++ (243 :: (putB k 1 ++ t.rest)), s.b5 ++ ((242 + (m : Int)) :: (putB k m ++ t.rest)), s.d4, s.d5⟩ (T ++ [t]) b1
 | ahead {t : TEnt} {m : Nat} (hn : ∀ t ∈ T, t.nr ≠ k) (e : t.nr = k) (ok : TOk t) (hm : 1 <= m /\ m <= 4) : Ch0 k s T b1 ⟨s.a0, s.sp, s.ss, s.rows, s.font, s.b4 ++ (243 :: (putB k 1 ++ t.rest)), s.b5, s.d4, s.d5⟩ (T ++ [t]) (b1 ++ ((242 + (m : Int)) :: (putB k m ++ t.rest)))
inductive Ch (s : PgS) (T : List TEnt) (b1 : List Int) : PgS -> List TEnt -> List Int -> Prop
 | mk {k : Int} {s1 : PgS} {T1 : List TEnt} {b1' : List Int} {m : Nat} {F4 : List Int} (hk : isF k) (c : Ch0 k s T b1 s1 T1 b1') (hm : 1 <= m /\ m <= 4) (h4 : (k < 64 /\ F4 = [171 + k]) \/ (64 <= k /\ F4 = [235, k])) :
   Ch s T b1 ⟨s1.a0, s1.sp, s1.ss, s1.rows, k, s1.b4 ++ F4, s1.b5 ++ ((234 + (m : Int)) :: putB k m), s1.d4, s1.d5⟩ T1 b1'
theorem Ch0.eq {k : Int} {s : PgS} {T : List TEnt} {b1 : List Int} {s1 : PgS} {T1 : List TEnt} {b1' : List Int} (c : Ch0 k s T b1 s1 T1 b1') : s1 = ⟨s.a0, s.sp, s.ss, s.rows, s.font, s1.b4, s1.b5, s.d4, s.d5⟩ /\ s1.b4.length <= s.b4.length + 100 /\ s1.b5.length <= s.b5.length + 100 := by
 induction c with
 | old ht e => exact ⟨rfl, by lia, by lia⟩
 | here hn e ok hm => have := ok.l; exact ⟨rfl, by rw [List.length_append, List.length_cons, List.length_append, putB_len]; lia, by rw [List.length_append, List.length_cons, List.length_append, putB_len]; lia⟩
 | ahead hn e ok hm => have := ok.l; exact ⟨rfl, by rw [List.length_append, List.length_cons, List.length_append, putB_len]; lia, Nat.le_add_right _ _⟩
theorem TOk.mk' {k c d ar : Int} {txt : List Int} (hk : isF k) (hc : c = 0 \/ c = 77) (hd : 0 < d /\ d <= 134217727) (har : 0 <= ar /\ ar <= 2) (ht : txt = List.replicate ar.toNat 47 ++ codes (fnm k)) :
  TOk ⟨k, putB c 4 ++ (putB 655360 4 ++ (putB d 4 ++ (ar :: ((txt.length : Int) - ar) :: txt))), .tup [.int c, .int 655360, .int d, .int ar, .bytes (byteArr txt)]⟩ := by
 have hcl : (codes (fnm k)).length <= 3 /\ ∀ i ∈ codes (fnm k), 0 <= i /\ i < 256 := by rcases hk with rfl | rfl <;> decide +kernel
 have htl : (txt.length : Int) = ar + (codes (fnm k)).length := by rw [ht]; simp; lia
 have hto : ∀ i ∈ txt, 0 <= i /\ i < 256 := by
  intro i hi
  rw [ht] at hi
  rcases List.mem_append.mp hi with hi | hi
  ·rw [List.eq_of_mem_replicate hi]; lia
  ·exact hcl.2 i hi
 have hk0 : 0 <= k /\ k < 256 := by rcases hk with rfl | rfl <;> lia
 have e4 : ∀ v : Int, 0 <= v -> v <= 134217727 -> beV (putB v 4) = v := fun v h0 h1 => beV_put h0 (by have := pow256; lia)
 refine ⟨hk, fun room h1 h4 => ?_, ?_, ?_⟩
 ·have ek := put_code (c := k) (r := room) hk0 h1
  have := FRest.mk (an := putB k room) (ac := putB c 4) (as := putB 655360 4) (ad := putB d 4) (aa := [ar]) (al := [(txt.length : Int) - ar]) (am := txt) (b := byteArr txt) (by rw [putB_len]; lia) (putB_len _ _) (putB_len _ _) (putB_len _ _) rfl rfl (by rw [beV_one, beV_one]; lia)
   (by rw [ek]; exact hk) (e4 _ (by lia) (by lia)) (by rw [e4 _ (by lia) (by lia)]; exact hd) (by rw [e4 _ (by lia) (by lia), ek]; rcases hk with rfl | rfl <;> simp [fck] <;> lia)
   (by rw [beV_one, ek, ht, List.drop_left' (by simp)]) (by rw [beV_one]; lia) (octs_byteArr hto)
  rw [putB_len, ek, e4 c (by lia) (by lia), e4 655360 (by lia) (by lia), e4 d (by lia) (by lia), beV_one] at this
  simpa using this
 ·exact oct_app (putB_oct _ _) (oct_app (putB_oct _ _) (oct_app (putB_oct _ _) (oct_cons (by lia) (oct_cons (by lia) hto))))
 ·simp [putB_len]; lia
section
variable {X : Wd} (hX : Good X) {l R : Hl} {K : W -> Hl -> Prop} {A : BA} {t : Tri} {s : PgS} {cs : List Int} {D : TdA} {F : FA} {T : List TEnt} {b1 : List Int}
include hX
theorem defined_s {k : Int} {m : Nat} {i : Int} {rest : List Int} (hi : i = (m : Int)) (hm : m <= 4) (hl : rest.length <= 100000) (h : K (.il ((242 + (m : Int)) :: (putB k m ++ rest))) l) : WC2 X 541 [.int k, .int i, .il rest] l K := by
 subst hi
 have hn := putB_len k m
 refine en541 hX fun κ => ?_
 fail "w"
 refine put_s hX rfl hm ?_
 fail "w"
 exact h
theorem lchoice_s (l4 : s.b4.length <= 100000) (l5 : s.b5.length <= 100000) (l1 : b1.length <= 100000) (lT : T.length <= 100000) (h : ∀ t' s' T' b1', Ch s T b1 s' T' b1' -> K .none (hB A t' s' cs (hT D T' b1' (hF F R)))) : WC2 X 546 [.ref A.src, .ref A.pg, .ref D.tl, .ref F.fo] (hB A t s cs (hT D T b1 (hF F R))) K := by
 refine en546 hX fun κ => ?_
 fail "w"
 refine take_s hX (n := 6) rfl (by decide) fun w t1 hw => ?_
 fail "w"
 refine ixA ⟨hw.1, hw.2⟩ (by decide) fun v hv => ?_
 obtain ⟨k, rfl, hk⟩ : ∃ k, v = .int k /\ isF k := by
  simp only [List.mem_cons, List.not_mem_nil, or_false] at hv
  rcases hv with rfl | rfl
  ·exact ⟨_, rfl, .inl rfl⟩
  ·exact ⟨_, rfl, .inr rfl⟩
 fail "w"
 refine take_s hX (n := 6) rfl (by decide) fun r t2 hr => ?_
 obtain ⟨r, r1, rfl⟩ := ways hr
 fail "w"
 refine take_s hX (n := 6) rfl (by decide) fun ah t3 hah => ?_
 have fin : ∀ t s1 T1 b1' L, Ch0 k s T b1 s1 T1 b1' -> ru X κ (RQ K) c546_1 [] (.s (.ref A.src) (.s (.ref A.pg) (.s (.ref D.tl) (.s (.ref F.fo) (.s (.int k) (.s (.int (1 + (r : Int))) (.s (.int ah) L))))))) .nil (hB A t s1 cs (hT D T1 b1' (hF F R))) := by
  intro t4 s1 T1 b1' L c
  have hn := putB_len k (1 + r)
  obtain ⟨e, e4, e5⟩ := c.eq
  fail "w"
  refine' brLE (fun h64 => ?_) fun h64 => ?_
  ·fail "w"
   refine put_s hX (k := 1 + r) rfl (by lia) ?_
   fail "w"
   exact h t4 _ _ _ (.mk hk c (m := 1 + r) (by lia) (.inl ⟨by lia, rfl⟩))
  ·fail "w"
   refine put_s hX (k := 1 + r) rfl (by lia) ?_
   fail "w"
   exact h t4 _ _ _ (.mk hk c (m := 1 + r) (by lia) (.inr ⟨by lia, rfl⟩))
 fail "w"
 by_cases hw : ∃ t ∈ T, t.nr = k
 ·obtain ⟨e, he, hek⟩ := hw
  obtain ⟨v, hlk⟩ := lk_map_some he hek
  refine inT hlk ?_
  refine' stI ?_
  fail "br"
  exact fin t3 _ _ _ _ (.old he hek)
 ·have hw' : ∀ t ∈ T, t.nr ≠ k := fun t ht e => hw ⟨t, ht, e⟩
  have hlk := lk_map_none hw'
  refine inF hlk ?_
  fail "w"
  obtain ⟨g, d, c, j, lkc, hat⟩ : ∃ g d c j, lkG [(3, W.ref F.f1), (70, W.ref F.f2)] k = some (.ref g) /\ ∀ t, (hB A t s cs (hT D T b1 (hF F R))).at j = some (g, fontC d c k (fck k)) := by
   rcases hk with rfl | rfl
   ·exact ⟨_, F.d1, F.c1, 11, rfl, fun O => rfl⟩
   ·exact ⟨_, F.d2, F.c2, 13, rfl, fun O => rfl⟩
  refine ⟨_, lkc, ?_⟩
  fail "w"
  refine take_s hX (n := 6) rfl (by decide) fun ck t4 hck => ?_
  fail "w"
  refine take_s hX (n := 6) rfl (by decide) fun dz t5 hdz => ?_
  fail "w"
  refine take_s hX (n := 6) rfl (by decide) fun ar t6 har => ?_
  obtain ⟨a0, a1⟩ := har
  fail "w"
  refine .frI (ns := List.replicate ar.toNat 47) List.map_replicate.symm ?_
  fail "w"
  refine acc j (hat t6) ?_
  fail "w"
  have hasc : (fnm k).cps.all (· < 128) = true := by rcases hk with rfl | rfl <;> kernel_rfl
  have hcl : (codes (fnm k)).length <= 3 := by rcases hk with rfl | rfl <;> decide +kernel
  refine lc_int (xs := (fnm k).cps.toList) (fun c => .str ⟨#[c]⟩) (fun c => (c : Int)) (.inl ⟨⟨hasc, rfl⟩, rfl⟩) (by rcases hk with z | z <;> rw [z] <;> decide) ?_ fun v Q' hv k env => ?_
  ·have htl : (List.replicate ar.toNat (47 : Int)).length = ar.toNat := List.length_replicate
   have hc2 : ((fnm k).cps.toList.map fun c : Nat => (c : Int)).length <= 3 := hcl
   fail "w"
   obtain ⟨txt, htx⟩ : ∃ txt, txt = List.replicate ar.toNat 47 ++ codes (fnm k) := ⟨_, rfl⟩
   rw [show List.replicate ar.toNat 47 ++ (fnm k).cps.toList.map (fun c : Nat => (c : Int)) = txt from htx.symm]
   have htl2 : txt.length <= 5 := by rw [htx, List.length_append, htl]; lia
   refine put_s hX (k := 4) rfl (Nat.le_refl _) ?_
   fail "w"
   refine acc j (hat t6) ?_
   fail "w"
   refine put_s hX (k := 4) rfl (Nat.le_refl _) ?_
   have p1 := putB_len (ck * 77) 4
   have p2 := putB_len 655360 4
   have p3 := putB_len (1 + 4099 * dz) 4
   fail "w"
   refine put_s hX (k := 4) rfl (Nat.le_refl _) ?_
   obtain ⟨c0, c1⟩ := hck
   obtain ⟨d0, d1⟩ := hdz
   have ht5 := TOk.mk' (c := ck * 77) (d := 1 + 4099 * dz) (ar := ar) (txt := txt) hk (by lia) (by lia) (by lia) htx
   have hto : ∀ i ∈ txt, 0 <= i /\ i < 256 := fun i hi => ht5.o i (List.mem_append_right _ (List.mem_append_right _ (List.mem_append_right _ (.tail _ (.tail _ hi)))))
   have hrl := ht5.l
   fail "w"
   refine acc j (hat t6) ?_
   fail "w"
   have hrv : putB (ck * 77) 4 ++ putB 655360 4 ++ putB (1 + 4099 * dz) 4 ++ [ar, ((txt.map W.int).length : Int) - ar] ++ txt = putB (ck * 77) 4 ++ (putB 655360 4 ++ (putB (1 + 4099 * dz) 4 ++ (ar :: ((txt.length : Int) - ar) :: txt))) := by rw [List.length_map]; simp only [List.append_assoc]; rfl
   rw [hrv]
   revert ht5 hrl
   generalize putB (ck * 77) 4 ++ (putB 655360 4 ++ (putB (1 + 4099 * dz) 4 ++ (ar :: ((txt.length : Int) - ar) :: txt))) = rv
   intro ht5 hrl
   have hrl : rv.length <= 30 := hrl
   fail "w"
   rw [putG_new hlk, show T.map TEnt.kv ++ [(k, W.tup [.il rv, .tup [.int (ck * 77), .int 655360, .int (1 + 4099 * dz), .int ar, .bytes (byteArr txt)]])] = (T ++ [TEnt.mk k rv (.tup [.int (ck * 77), .int 655360, .int (1 + 4099 * dz), .int ar, .bytes (byteArr txt)])]).map TEnt.kv by rw [List.map_append]; rfl]
   have pk := putB_len k 1
   have pr := putB_len k (1 + r)
   refine defined_s hX (m := 1) rfl (by decide) (by lia) ?_
   fail "w"
   refine' brD (fun h0 => ?_) fun h0 => ?_
   ·fail "w"
    refine defined_s hX (m := 1 + r) rfl (by lia) (by lia) ?_
    iterate 2 (refine' stI ?_; fail "r")
    exact fin t6 _ _ _ _ (.ahead hw' rfl ht5 (by lia))
   ·fail "w"
    refine defined_s hX (m := 1 + r) rfl (by lia) (by lia) ?_
    iterate 2 (refine' stI ?_; fail "r")
    exact fin t6 _ _ _ _ (.here hw' rfl ht5 (by lia))
  ·fail "w"
   exact k _ _
end
end
section
theorem lk_cons {p : Int × W} {r : List (Int × W)} {k : Int} : lkG (p :: r) k = if p.1 = k then some p.2 else lkG r k := rfl
theorem lk_app {l m : List (Int × W)} {k : Int} : lkG (l ++ m) k = (lkG l k).or (lkG m k) := by
 induction l with
 | nil => rfl
 | cons p r ih =>
  simp only [List.cons_append, lk_cons, lk_cons]
  split
  ·rfl
  ·exact ih
theorem trows_cons (t : TEnt) (T : List TEnt) : trows (t :: T) = (t.nr, t.row) :: trows T := rfl
theorem trows_app (T S : List TEnt) : trows (T ++ S) = trows T ++ trows S := List.map_append ..
theorem lk_trows_none {T : List TEnt} {k : Int} (h : ∀ t ∈ T, t.nr ≠ k) : lkG (trows T) k = none := by
 induction T with
 | nil => rfl
 | cons t T ih =>
  rw [trows_cons, lk_cons, if_neg (h t (by simp))]
  exact ih fun t' ht => h t' (by simp [ht])
theorem lk_trows_some {T : List TEnt} {k : Int} {t : TEnt} (ht : t ∈ T) (e : t.nr = k) : ∃ v, lkG (trows T) k = some v := by
 induction T with
 | nil => cases ht
 | cons t' T ih =>
  simp only [trows_cons, lk_cons]
  by_cases hk : t'.nr = k
  ·exact ⟨_, if_pos hk⟩
  ·rw [if_neg hk]
   rcases List.mem_cons.mp ht with rfl | ht
   ·exact absurd e hk
   ·exact ih ht
theorem lk_mem {l : List (Int × W)} {k : Int} {v : W} (h : lkG l k = some v) : (k, v) ∈ l := by
 induction l with
 | nil => cases h
 | cons p r ih =>
  simp only [lk_cons] at h
  split at h
  ·rename_i e; cases h; subst e; exact .head _
  ·exact .tail _ (ih h)
theorem lk_none_not {l : List (Int × W)} {k : Int} {v : W} (h : lkG l k = none) : (k, v) ∉ l := by
 intro hm
 induction l with
 | nil => cases hm
 | cons p r ih =>
  simp only [lk_cons] at h
  split at h
  ·cases h
  ·rename_i e
   rcases List.mem_cons.mp hm with rfl | hm
   ·exact e rfl
   ·exact ih h hm
theorem lk_of_mem {l : List (Int × W)} {k : Int} {v : W} (h : (k, v) ∈ l) : ∃ w, lkG l k = some w := by
 cases q : lkG l k with
 | none => exact absurd h (lk_none_not q)
 | some w => exact ⟨w, rfl⟩
inductive Defs : List Int -> List (Int × W) -> Prop
 | nil : Defs [] []
 | snoc {b A r m nr row} (h : Defs b A) (hd : FRest m nr row r) (hl : r.length <= 40) (ho : ∀ i ∈ r, 0 <= i /\ i < 256) : Defs (b ++ ((242 + (m : Int)) :: r)) (A ++ [(nr, row)])
structure PInv (k : Nat) (K4 : List (Int × W)) (s : PgS) (T : List TEnt) (D4 D5 : List (Int × W)) : Prop where
 bd : Bd k s
 r4 : Reads K4 s.b4 q0 (qOf s s.d4) D4
 kT : trows T = K4 ++ D4
 r5 : ∀ KA, (∀ t ∈ T, lkG D5 t.nr = none -> ∃ v, lkG KA t.nr = some v) -> (∀ t ∈ T, lkG D5 t.nr ≠ none -> lkG KA t.nr = none) -> KA.length <= 900 -> Reads KA s.b5 q0 (qOf s s.d5) D5
 ft : s.font = 0 \/ (isF s.font /\ ∃ t ∈ T, t.nr = s.font)
 sub : ∀ p ∈ D5, p ∈ trows T
 nd : (T.map (·.nr)).Nodup
 ok : ∀ t ∈ T, TOk t
 dl : D5.length <= k
 dn : ∀ p ∈ D5, lkG K4 p.1 = none
theorem short {T : List TEnt} (nd : (T.map (·.nr)).Nodup) (ok : ∀ t ∈ T, TOk t) : T.length <= 2 := by
 refine Nat.le_of_not_lt fun hl => ?_
 cases T with
 | nil => exact absurd hl (Nat.not_lt_zero _)
 | cons a T => cases T with
 | nil => exact absurd (Nat.lt_of_succ_lt_succ hl) (Nat.not_lt_zero _)
 | cons b T => cases T with
 | nil => exact absurd (Nat.lt_of_succ_lt_succ (Nat.lt_of_succ_lt_succ hl)) (Nat.not_lt_zero _)
 | cons c r =>
  have h1 := (ok a (by simp)).f
  have h2 := (ok b (by simp)).f
  have h3 := (ok c (by simp)).f
  simp only [List.map_cons, List.nodup_cons, List.mem_cons, not_or] at nd
  obtain ⟨⟨n1, n2, _⟩, ⟨n3, _⟩, _⟩ := nd
  rcases h1 with h1 | h1 <;> rcases h2 with h2 | h2 <;> rcases h3 with h3 | h3 <;> rw [h1] at n1 n2 <;> rw [h2] at n1 n3 <;> rw [h3] at n2 n3 <;> first | exact n1 rfl | exact n2 rfl | exact n3 rfl
structure Inv (k : Nat) (K4 P : List (Int × W)) (s : PgS) (T : List TEnt) (A D4 D5 : List (Int × W)) (b1 : List Int) : Prop where
 p : PInv k K4 s T D4 D5
 pm : (A ++ (P ++ D5)).Perm (trows T)
 df : Defs b1 A
section
variable {k : Nat} {K4 P : List (Int × W)} {s s' : PgS} {T : List TEnt} {A D4 D5 : List (Int × W)} {b1 : List Int}
theorem Inv.tr (h : Inv k K4 P s T A D4 D5 b1) (t : Tr k s s') : Inv (k + 1) K4 P s' T A D4 D5 b1 := by
 refine cps fun G0 z0 => ?_
 obtain ⟨h, pm, df⟩ := h
 obtain ⟨E4, E5, e4, e5, r4, r5⟩ := t.r
 refine z0 ?_
 clear z0
 refine ⟨⟨t.b, ?_, h.kT, fun KA c1 c2 c3 => ?_, by rw [t.ft]; exact h.ft, h.sub, h.nd, h.ok, by have := h.dl; lia, h.dn⟩, pm, df⟩
 ·rw [e4, t.d4]
  have := h.r4.append (r4 _)
  simpa using this
 ·rw [e5]
  have := (h.r5 KA c1 c2 c3).append (r5 _)
  simpa using this
theorem rd_font {kv} {q : PSt} {c : Int} {v : W} {F4 : List Int} (hk : isF c) (hv : lkG kv c = some v) (h4 : (c < 64 /\ F4 = [171 + c]) \/ (64 <= c /\ F4 = [235, c])) : Reads kv F4 q { q with font := c } [] := by
 rcases h4 with ⟨h, rfl⟩ | ⟨h, rfl⟩
 ·exact Reads.one (.font1 (by rcases hk with rfl | rfl <;> lia) hv)
 ·have := Step.font2 (kv := kv) (q := q) (bs := [c]) (v := v) (by simp) (by rw [beV_one]; exact hv)
  rw [beV_one] at this
  exact Reads.one this
theorem rd_font2 {kv} {q : PSt} {c : Int} {v : W} {m : Nat} (hk : isF c) (hv : lkG kv c = some v) (hm : 1 <= m /\ m <= 4) : Reads kv ((234 + (m : Int)) :: putB c m) q { q with font := c } [] := by
 have e := put_code (c := c) (r := m) (by rcases hk with rfl | rfl <;> lia) hm.1
 have := Step.font2 (kv := kv) (q := q) (bs := putB c m) (v := v) (by rw [putB_len]; exact hm) (by rw [e]; exact hv)
 rw [putB_len, e] at this
 exact Reads.one this
theorem rd_def {kv} {q : PSt} {t : TEnt} {m : Nat} (ok : TOk t) (hm : 1 <= m /\ m <= 4) (hn : lkG kv t.nr = none) (hl : kv.length <= 1000) : Reads kv ((242 + (m : Int)) :: (putB t.nr m ++ t.rest)) q q [(t.nr, t.row)] :=
 Reads.one (.fdef (ok.r m hm.1 hm.2) hn hl)
theorem fnt_ok {c : Int} (hk : isF c) (s : PgS) (b4 b5 : List Int) (d : Int) : qOf ⟨s.a0, s.sp, s.ss, s.rows, c, b4, b5, s.d4, s.d5⟩ d = { qOf s d with font := c } := by
 unfold qOf
 simp only [fnt_F hk]
theorem oct_font {c : Int} {F4 : List Int} (hk : isF c) (h4 : (c < 64 /\ F4 = [171 + c]) \/ (64 <= c /\ F4 = [235, c])) : (∀ i ∈ F4, 0 <= i /\ i < 256) /\ F4.length <= 2 := by
 rcases hk with rfl | rfl <;> rcases h4 with ⟨h, rfl⟩ | ⟨h, rfl⟩ <;> simp_all
theorem Inv.ch (h : Inv k K4 P s T A D4 D5 b1) (hk30 : k <= 40) {T' : List TEnt} {b1' : List Int} (c : Ch s T b1 s' T' b1') : ∃ A' D4' D5', Inv (k + 1) K4 P s' T' A' D4' D5' b1' := by
 refine cps fun G0 z0 => ?_
 obtain ⟨h, pm, df⟩ := h
 set_option tactic.hygienic true in obtain ⟨hk, c0, hm, h4⟩ := c
 rename_i c s1 m F4
 have hbd := h.bd
 have hkl : K4.length + D4.length <= 2 := by
  have := congrArg List.length h.kT
  rw [List.length_map, List.length_append] at this
  have := short h.nd h.ok
  lia
 obtain ⟨f1, f2⟩ := oct_font hk h4
 refine z0 ?_
 clear z0
 have mkBd : ∀ {E4 E5 : List Int}, (∀ i ∈ E4, 0 <= i /\ i < 256) -> (∀ i ∈ E5, 0 <= i /\ i < 256) -> E4.length <= 100 -> E5.length <= 100 -> Bd (k + 1) ⟨s.a0, s.sp, s.ss, s.rows, c, s.b4 ++ E4, s.b5 ++ E5, s.d4, s.d5⟩ := fun o4 o5 l4 l5 => by
  have a1 := hbd.sl
  have a2 := hbd.rl
  have a3 := hbd.l4
  have a4 := hbd.l5
  have a5 := hbd.d4
  have a6 := hbd.d5
  exact ⟨hbd.sp.up, fun p hp => (hbd.ss p hp).up, by show s.ss.length <= _; lia, by show s.rows.length <= _; lia, by show (s.b4 ++ _).length <= _; rw [List.length_append]; lia, by show (s.b5 ++ _).length <= _; rw [List.length_append]; lia, by show 0 <= s.d4 /\ s.d4 <= _; push_cast; lia, by show 0 <= s.d5 /\ s.d5 <= _; push_cast; lia, hbd.fl, oct_app hbd.o4 o4, oct_app hbd.o5 o5⟩
 have m5 : ∀ i ∈ (234 + (m : Int)) :: putB c m, 0 <= i /\ i < 256 := oct_cons (by lia) (putB_oct _ _)
 induction c0 with
 | @old t ht e =>
  obtain ⟨v, hv⟩ := lk_trows_some ht e
  refine ⟨A, D4, D5, ⟨mkBd f1 m5 (by lia) (by simp [putB_len]; lia), ?_, h.kT, fun KA c1 c2 c3 => ?_, .inr ⟨hk, t, ht, e⟩, h.sub, h.nd, h.ok, by have := h.dl; lia, h.dn⟩, pm, df⟩
  ·rw [fnt_ok hk]
   have := h.r4.append (rd_font (q := qOf s s.d4) hk (by rw [<- h.kT]; exact hv) h4)
   simpa using this
  ·rw [fnt_ok hk]
   have : ∃ w, lkG (KA ++ D5) c = some w := by
    rw [lk_app]
    cases q : lkG D5 c with
    | none =>
     obtain ⟨w, hw⟩ := c1 t ht (by rw [e]; exact q)
     rw [e] at hw; exact ⟨w, by rw [hw]; rfl⟩
    | some w =>
     have := c2 t ht (by rw [e, q]; simp)
     rw [e] at this; exact ⟨w, by rw [this]; rfl⟩
   obtain ⟨w, hw⟩ := this
   have := (h.r5 KA c1 c2 c3).append (rd_font2 (q := qOf s s.d5) hk hw hm)
   simpa using this
 | @here t m' hn e ok hm' =>
  have hn4 : lkG (K4 ++ D4) c = none := by rw [<- h.kT]; exact lk_trows_none hn
  have hK4 : lkG K4 c = none := by
   rw [lk_app] at hn4
   cases z : lkG K4 c with
   | none => rfl
   | some w => rw [z] at hn4; cases hn4
  have hl := ok.l
  have nin : ∀ KA : List (Int × W), lkG D5 c = none := fun O => by
   cases q : lkG D5 c with
   | none => rfl
   | some w =>
    have := h.sub _ (lk_mem q)
    obtain ⟨t', ht', he⟩ := List.mem_map.mp this
    cases he
    exact absurd rfl (hn t' ht')
  have n5 := nin []
  have nd' : ((T ++ [t]).map (·.nr)).Nodup := by
   rw [List.map_append, List.nodup_append]
   refine ⟨h.nd, by simp, fun x hx y hy => ?_⟩
   obtain ⟨t', ht', rfl⟩ := List.mem_map.mp hx
   simp only [List.map_cons, List.map_nil, List.mem_singleton] at hy
   rw [hy, e]; exact hn t' ht'
  have ok' : ∀ t' ∈ T ++ [t], TOk t' := fun t' ht' => by
   rcases List.mem_append.mp ht' with ht' | ht'
   ·exact h.ok t' ht'
   ·rw [List.mem_singleton.mp ht']; exact ok
  refine ⟨A, D4 ++ [(c, t.row)], D5 ++ [(c, t.row)], ⟨?_, ?_, ?_, fun KA c1 c2 c3 => ?_, .inr ⟨hk, t, by simp, e⟩, ?_, nd', ok', by have := h.dl; simp; lia, fun p hp => (List.mem_append.mp hp).elim (h.dn p) fun hp => by rw [List.mem_singleton.mp hp]; exact hK4⟩, ?_, df⟩
  ·dsimp only
   rw [List.append_assoc, List.append_assoc]
   exact mkBd (oct_app (oct_cons (by lia) (oct_app (putB_oct _ _) ok.o)) f1) (oct_app (oct_cons (by lia) (oct_app (putB_oct _ _) ok.o)) m5) (by simp [putB_len]; lia) (by simp [putB_len]; lia)
  ·dsimp only
   rw [fnt_ok hk]
   subst e
   have a := h.r4.append (rd_def (q := qOf s s.d4) (m := 1) ok (by lia) hn4 (by rw [List.length_append]; lia))
   have b := a.append (d2 := []) (rd_font (q := qOf s s.d4) hk (v := t.row) (by rw [<- List.append_assoc, lk_app, hn4]; simp [lk_cons]) h4)
   simpa using b
  ·rw [trows_app, h.kT, List.append_assoc, <- e]; rfl
  ·dsimp only
   rw [fnt_ok hk]
   have hKn : lkG KA c = none := by
    have := c2 t (by simp) (by rw [e, lk_app, n5]; simp [lk_cons])
    rwa [e] at this
   have r0 := h.r5 KA (fun t' ht' q => c1 t' (by simp [ht']) (by rw [lk_app, q, lk_cons, if_neg (fun z => hn t' ht' z.symm)]; rfl)) (fun t' ht' q => c2 t' (by simp [ht']) (by
    rw [lk_app]
    cases z : lkG D5 t'.nr with
    | none => exact absurd z q
    | some w => simp)) c3
   subst e
   have a := r0.append (rd_def (q := qOf s s.d5) (m := m') ok hm' (by rw [lk_app, hKn, n5]; rfl) (by rw [List.length_append]; have := h.dl; lia))
   have b := a.append (d2 := []) (rd_font2 (q := qOf s s.d5) hk (v := t.row) (by rw [lk_app, hKn, lk_app, n5]; simp [lk_cons]) hm)
   simpa using b
  ·intro p hp
   rw [trows_app]
   rcases List.mem_append.mp hp with hp | hp
   ·exact List.mem_append_left _ (h.sub p hp)
   ·rw [List.mem_singleton.mp hp, <- e]; simp
  ·rw [trows_app, <- e]
   have := pm.append_right [(t.nr, t.row)]
   simpa [List.append_assoc] using this
 | @ahead t m' hn e ok hm' =>
  have hn4 : lkG (K4 ++ D4) c = none := by rw [<- h.kT]; exact lk_trows_none hn
  have hl := ok.l
  have n5 : lkG D5 c = none := by
   cases q : lkG D5 c with
   | none => rfl
   | some w =>
    have := h.sub _ (lk_mem q)
    refine cps fun G0 z0 => ?_
    obtain ⟨t', ht', he⟩ := List.mem_map.mp this
    cases he
    refine z0 ?_
    clear z0
    exact absurd rfl (hn t' ht')
  have nd' : ((T ++ [t]).map (·.nr)).Nodup := by
   rw [List.map_append, List.nodup_append]
   refine ⟨h.nd, by simp, fun x hx y hy => ?_⟩
   obtain ⟨t', ht', rfl⟩ := List.mem_map.mp hx
   simp only [List.map_cons, List.map_nil, List.mem_singleton] at hy
   rw [hy, e]; exact hn t' ht'
  have ok' : ∀ t' ∈ T ++ [t], TOk t' := fun t' ht' => by
   rcases List.mem_append.mp ht' with ht' | ht'
   ·exact h.ok t' ht'
   ·rw [List.mem_singleton.mp ht']; exact ok
  refine ⟨A ++ [(c, t.row)], D4 ++ [(c, t.row)], D5, ⟨?_, ?_, ?_, fun KA c1 c2 c3 => ?_, .inr ⟨hk, t, by simp, e⟩, ?_, nd', ok', by have := h.dl; lia, h.dn⟩, ?_, ?_⟩
  ·dsimp only
   rw [List.append_assoc]
   exact mkBd (oct_app (oct_cons (by lia) (oct_app (putB_oct _ _) ok.o)) f1) m5 (by simp [putB_len]; lia) (by simp [putB_len]; lia)
  ·dsimp only
   rw [fnt_ok hk]
   refine cps fun G0 z0 => ?_
   subst e
   refine z0 ?_
   clear z0
   have a := h.r4.append (rd_def (q := qOf s s.d4) (m := 1) ok (by lia) hn4 (by rw [List.length_append]; lia))
   have b := a.append (d2 := []) (rd_font (q := qOf s s.d4) hk (v := t.row) (by rw [<- List.append_assoc, lk_app, hn4]; simp [lk_cons]) h4)
   simpa using b
  ·rw [trows_app, h.kT, List.append_assoc, <- e]; rfl
  ·dsimp only
   rw [fnt_ok hk]
   refine cps fun G0 z0 => ?_
   obtain ⟨v, hv⟩ := c1 t (by simp) (by rw [e]; exact n5)
   refine z0 ?_
   clear z0
   rw [e] at hv
   have r0 := h.r5 KA (fun t' ht' q => c1 t' (by simp [ht']) q) (fun t' ht' q => c2 t' (by simp [ht']) q) c3
   have b := r0.append (d2 := []) (rd_font2 (q := qOf s s.d5) hk (v := v) (by rw [lk_app, hv]; rfl) hm)
   simpa using b
  ·intro p hp
   rw [trows_app]
   exact List.mem_append_left _ (h.sub p hp)
  ·rw [trows_app, <- e]
   have p1 : (A ++ [(t.nr, t.row)] ++ (P ++ D5)).Perm (A ++ (P ++ D5) ++ [(t.nr, t.row)]) := by
    rw [List.append_assoc, List.append_assoc]
    exact List.Perm.append_left A List.perm_append_comm
   exact p1.trans (pm.append_right _)
  ·have := Defs.snoc df (ok.r m' hm'.1 hm'.2) (by simp [putB_len]; lia) (oct_app (putB_oct _ _) ok.o)
   rw [e] at this
   exact this
end
end
section
section
variable {k : Nat} {K4 P : List (Int × W)} {s s' : PgS} {T : List TEnt} {A D4 D5 : List (Int × W)} {b1 : List Int}
theorem Inv.push (h : Inv k K4 P s T A D4 D5 b1) (hk : k <= 40) (c : Addr) : Inv (k + 1) K4 P ⟨s.a0, s.sp, s.ss ++ [(c, s.sp)], s.rows, s.font, s.b4 ++ [141], s.b5 ++ [141], max s.d4 ((s.ss.length : Int) + 1), max s.d5 ((s.ss.length : Int) + 1)⟩ T A D4 D5 b1 := by
 obtain ⟨h, pm, df⟩ := h
 have hb := h.bd
 have a1 := hb.sl
 have a2 := hb.rl
 have a3 := hb.l4
 have a4 := hb.l5
 have a5 := hb.d4
 have a6 := hb.d5
 have st : ∀ kv d, Reads kv [141] (qOf s d) (qOf ⟨s.a0, s.sp, s.ss ++ [(c, s.sp)], s.rows, s.font, s.b4 ++ [141], s.b5 ++ [141], max s.d4 ((s.ss.length : Int) + 1), max s.d5 ((s.ss.length : Int) + 1)⟩ (max d ((s.ss.length : Int) + 1))) [] := fun kv d => by
  have := Reads.one (Step.push (kv := kv) (q := qOf s d) (qOf_ok hb hk d))
  refine this.cast rfl ?_
  dsimp only [qOf, four, sp4]
  simp
 refine ⟨⟨⟨hb.sp.up, ?_, by simp; lia, by show s.rows.length <= _; lia, by simp; lia, by simp; lia, ?_, ?_, hb.fl, oct_app hb.o4 (by simp), oct_app hb.o5 (by simp)⟩, ?_, h.kT, fun KA c1 c2 c3 => ?_, h.ft, h.sub, h.nd, h.ok, by have := h.dl; lia, h.dn⟩, pm, df⟩
 ·intro p hp
  rcases List.mem_append.mp hp with hp | hp
  ·exact (hb.ss p hp).up
  ·rw [List.mem_singleton.mp hp]; exact hb.sp.up
 ·show 0 <= max s.d4 _ /\ max s.d4 _ <= _; push_cast; lia
 ·show 0 <= max s.d5 _ /\ max s.d5 _ <= _; push_cast; lia
 ·have := h.r4.append (st _ s.d4)
  simpa using this
 ·have := (h.r5 KA c1 c2 c3).append (st _ s.d5)
  simpa using this
theorem Inv.pop (h : Inv k K4 P s T A D4 D5 b1) (hk : k <= 40) {r : List (Addr × Spot)} {a : Addr} {sp : Spot} (hs : s.ss = r ++ [(a, sp)]) : Inv (k + 1) K4 P ⟨a, sp, r, s.rows, s.font, s.b4 ++ [142], s.b5 ++ [142], s.d4, s.d5⟩ T A D4 D5 b1 := by
 obtain ⟨h, pm, df⟩ := h
 have hb := h.bd
 have a1 := hb.sl
 have a2 := hb.rl
 have a3 := hb.l4
 have a4 := hb.l5
 have a5 := hb.d4
 have a6 := hb.d5
 rw [hs] at a1
 simp at a1
 have st : ∀ kv d, Reads kv [142] (qOf s d) (qOf ⟨a, sp, r, s.rows, s.font, s.b4 ++ [142], s.b5 ++ [142], s.d4, s.d5⟩ d) [] := fun kv d => by
  have := Reads.one (Step.pop (kv := kv) (q := qOf s d) (st := r.map fun p => sp4 p.2) (h := sp.h) (v := sp.v) (w := sp.w) (x := sp.x) (y := sp.y) (z := sp.z) (qOf_ok hb hk d) (by show s.ss.map _ = _; simp only [hs]; simp [sp4]))
  exact this
 refine ⟨⟨⟨(hb.ss (a, sp) (by rw [hs]; simp)).up, fun p hp => (hb.ss p (by rw [hs]; simp [hp])).up, by show r.length <= _; lia, by show s.rows.length <= _; lia, by simp; lia, by simp; lia, by show 0 <= s.d4 /\ s.d4 <= _; push_cast; lia, by show 0 <= s.d5 /\ s.d5 <= _; push_cast; lia, hb.fl, oct_app hb.o4 (by simp), oct_app hb.o5 (by simp)⟩, ?_, h.kT, fun KA c1 c2 c3 => ?_, h.ft, h.sub, h.nd, h.ok, by have := h.dl; lia, h.dn⟩, pm, df⟩
 ·have := h.r4.append (st _ s.d4)
  simpa using this
 ·have := (h.r5 KA c1 c2 c3).append (st _ s.d5)
  simpa using this
noncomputable def s0 (a0 : Addr) : PgS := ⟨a0, ⟨0, 0, 0, 0, 0, 0⟩, [], [], 0, [], [], 0, 0⟩
theorem Inv.start (a0 : Addr) (pm : (A ++ P).Perm (trows T)) (df : Defs b1 A) (nd : (T.map (·.nr)).Nodup) (ok : ∀ t ∈ T, TOk t) : Inv 0 (trows T) P (s0 a0) T A [] [] b1 :=
 ⟨⟨⟨⟨by simp [s0], by simp [s0], by simp [s0], by simp [s0], by simp [s0], by simp [s0]⟩, by simp [s0], by simp [s0], by simp [s0], by simp [s0], by simp [s0], by simp [s0], by simp [s0], rfl, by simp [s0], by simp [s0]⟩, .nil, by simp, fun KA O O O => .nil, .inl rfl, by simp, nd, ok, by simp, by simp⟩, by simpa using pm, df⟩
theorem rd_pops {k : Nat} {kv} (n : Nat) : ∀ (s : PgS) (d : Int), s.ss.length = n -> SpB k s.sp -> (∀ p ∈ s.ss, SpB k p.2) -> n <= k -> s.rows.length <= k -> k <= 40 -> ∃ q, Reads kv (List.replicate n 142) (qOf s d) q [] /\ q.stack = [] /\ q.rows = s.rows /\ q.deepest = d := by
 induction n with
 | zero => exact fun s d h O O O O O => ⟨qOf s d, .nil, by rw [List.length_eq_zero_iff] at h; simp [qOf, h], rfl, rfl⟩
 | succ n ih =>
  intro s d h b0 b1 hk hr h40
  refine cps fun G0 z0 => ?_
  obtain ⟨r, p, hs⟩ : ∃ r p, s.ss = r ++ [p] := by
   rcases List.eq_nil_or_concat s.ss with e | ⟨r, p, e⟩
   ·rw [e] at h; cases h
   ·exact ⟨r, p, by simpa using e⟩
  have hl : r.length = n := by rw [hs] at h; simpa using h
  have bp : SpB k p.2 := b1 p (by rw [hs]; simp)
  obtain ⟨q, r1, r2, r3, r4⟩ := ih ⟨p.1, p.2, r, s.rows, s.font, [], [], 0, 0⟩ d hl bp (fun x hx => b1 x (by rw [hs]; simp [hx])) (by lia) hr h40
  obtain ⟨o1, o2, o3, o4⟩ := b0.ok h40
  refine z0 ?_
  clear z0
  refine ⟨q, ?_, r2, r3, r4⟩
  have := Reads.one (Step.pop (kv := kv) (q := qOf s d) (st := r.map fun p => sp4 p.2) (h := p.2.h) (v := p.2.v) (w := p.2.w) (x := p.2.x) (y := p.2.y) (z := p.2.z) ⟨⟨by show _ <= s.sp.h; lia, by show s.sp.h <= _; lia⟩, ⟨by show _ <= s.sp.v; lia, by show s.sp.v <= _; lia⟩, by show (s.ss.map _).length <= _; rw [List.length_map]; lia, by show s.rows.length <= _; lia⟩ (by show s.ss.map _ = _; rw [hs]; simp [sp4]))
  simp only [List.replicate_succ]
  exact this.app r1
end
end
section
noncomputable def stk (ss : List (Addr × Spot)) (R : Hl) : Hl := ss.foldl (fun R p => .c p.1 (.il p.2.l) R) R
theorem stk_snoc {ss : List (Addr × Spot)} {p : Addr × Spot} {R : Hl} : stk (ss ++ [p]) R = .c p.1 (.il p.2.l) (stk ss R) := List.foldl_append
noncomputable def Hl.del : Hl -> Nat -> Hl
 | .nil, _ => .nil
 | .c _ _ r, 0 => r
 | .c a x r, n + 1 => .c a x (r.del n)
theorem Hl.del_perm {l : Hl} : ∀ {n a x}, l.at n = some (a, x) -> l.tl.Perm ((a, x) :: (l.del n).tl) := by
 induction l with
 | nil => exact fun e => none_no e
 | c b y r ih => exact fun {n a x} => n.rec (fun e => Option.some.inj e ▸ .rfl) fun n O e => ((ih (n := n) e).cons (b, y)).trans (.swap _ _ _)
theorem Sub.pull {l : Hl} {n : Nat} {a : Addr} {x : C2} (e : l.at n = some (a, x)) : Sub l (.c a x (l.del n)) := ⟨[], by rw [List.append_nil]; exact Hl.del_perm e⟩
theorem Sub.push {l l' : Hl} {n : Nat} {a : Addr} {x : C2} (e : l.at n = some (a, x)) (h : l' = .c a x (l.del n)) : Sub l' l := ⟨[], by rw [List.append_nil, h]; exact (Hl.del_perm e).symm⟩
theorem Sub.trans {l l' l'' : Hl} (h : Sub l l') (g : Sub l' l'') : Sub l l'' :=
 let ⟨r, p⟩ := h
 let ⟨r', q⟩ := g
 ⟨r' ++ r, p.trans ((q.append_right r).trans (by rw [List.append_assoc]))⟩
theorem Defs.len {b : List Int} {A : List (Int × W)} (h : Defs b A) : b.length <= 41 * A.length := by
 induction h with
 | nil => exact Nat.le_refl _
 | snoc _ _ hl _ ih => rw [List.length_append, List.length_append, List.length_cons, List.length_singleton]; lia
noncomputable abbrev hS (A : BA) (D : TdA) (F : FA) (t : Tri) (s : PgS) (cs : List Int) (T : List TEnt) (b1 : List Int) (R : Hl) : Hl := hB A t s cs (hT D T b1 (hF F (stk s.ss R)))
section
variable {X : Wd} (hX : Good X) {R : Hl} {K : W -> Hl -> Prop} {A : BA} {D : TdA} {F : FA} {t : Tri} {s : PgS} {cs : List Int} {T : List TEnt} {b1 : List Int} {k : Nat} {K4 P A1 D4 D5 : List (Int × W)}
include hX
omit hX in
theorem Inv.bnd (i : Inv k K4 P s T A1 D4 D5 b1) : T.length <= 2 /\ b1.length <= 100 := by
 have h1 := short i.p.nd i.p.ok
 have h2 := i.df.len
 have h3 := i.pm.length_eq
 rw [List.length_append, List.length_map] at h3
 lia
theorem lstep_s (i : Inv k K4 P s T A1 D4 D5 b1) (hk : k <= 25) (h : ∀ t s T A1 D4 D5 b1, Inv (k + 2) K4 P s T A1 D4 D5 b1 -> K .none (hS A D F t s cs T b1 R)) : WC2 X 558 [.ref A.src, .ref A.pg, .ref D.tl, .ref F.fo] (hS A D F t s cs T b1 R) K := by
 refine .sub (en558 hX fun κ => ?_)
 fail "w"
 refine idle_s hX i.p.bd (by lia) fun t1 s1 tr => ?_
 have i1 := i.tr tr
 rw [<- tr.ss]
 clear i tr
 obtain ⟨lT, lb⟩ := i1.bnd
 have l4 := i1.p.bd.l4
 have l5 := i1.p.bd.l5
 have lr := i1.p.bd.rl
 have ls := i1.p.bd.sl
 fail "w"
 refine take_s hX (n := 6) rfl (by decide) fun w t2 hw => ?_
 have leaf : ∀ t' s', Tr (k + 1) s1 s' -> ∃ l', Sub (hB A t' s' cs (hT D T b1 (hF F (stk s1.ss R)))) l' /\ K .none l' := fun t' s' tr => ⟨_, .rfl, tr.ss ▸ h t' s' T A1 D4 D5 b1 (i1.tr tr)⟩
 have cho : ru X κ (RQ fun w l => ∃ l', Sub l l' /\ K w l') c558_0 [] (.s (.ref A.src) (.s (.ref A.pg) (.s (.ref D.tl) (.s (.ref F.fo) (.s (.int w) .nil))))) .nil (hB A t2 s1 cs (hT D T b1 (hF F (stk s1.ss R)))) := by
  fail "w"
  refine lchoice_s hX (by lia) (by lia) (by lia) (by lia) fun t' s' T' b1' c => ?_
  refine cps fun G0 z0 => ?_
  obtain ⟨A', D4', D5', i'⟩ := i1.ch (by lia) c
  refine z0 ?_
  clear z0
  have es : s'.ss = s1.ss := by obtain ⟨_, c, _, _⟩ := c; rw [c.eq.1]
  fail "w"
  exact ⟨_, .rfl, es ▸ h t' s' T' A' D4' D5' b1' i'⟩
 have pu : ru X κ (RQ fun w l => ∃ l', Sub l l' /\ K w l') c558_1 [] (.s (.ref A.src) (.s (.ref A.pg) (.s (.ref D.tl) (.s (.ref F.fo) (.s (.int w) .nil))))) .nil (hB A t2 s1 cs (hT D T b1 (hF F (stk s1.ss R)))) := by
  fail "w"
  refine .nwI rfl fun c => ?_
  have h := h t2 _ T A1 D4 D5 b1 (i1.push (by lia) c)
  unfold hS hB at h
  simp only [stk_snoc, List.map_append] at h
  have hm : (s1.ss.map fun p => W.ref p.1).length = s1.ss.length := List.length_map ..
  fail "w"
  rw [List.length_append, List.length_map, List.length_singleton]
  refine ⟨_, ?_, h⟩
  exact .push (n := 15) rfl rfl
 fail "w"
 refine' brLE (fun h6 => ?_) fun h6 => ?_
 ·fail "w"
  refine' brD (fun h5 => ?_) fun h5 => ?_
  ·exact cho
  ·fail "w"
   refine' brD (fun h0 => ?_) fun h0 => ?_
   ·exact cho
   ·have hf : isF s1.font := i1.p.ft.elim (fun z => absurd z h0) fun z => z.1
    fail "w"
    refine lletter_s hX i1.p.bd (by lia) hf fun t' s' tr => ?_
    fail "w"
    exact leaf t' s' tr
 ·fail "w"
  refine' brLE (fun h12 => ?_) fun h12 => ?_
  ·fail "w"
   refine lmoved_s hX i1.p.bd (by lia) fun t' s' tr => ?_
   fail "w"
   exact leaf t' s' tr
  ·fail "w"
   refine' brD (fun g12 => ?_) fun g12 => ?_
   ·fail "w"
    refine lnoted_s hX i1.p.bd (by lia) fun t' s' tr => ?_
    fail "w"
    exact leaf t' s' tr
   ·fail "w"
    refine' brD (fun g15 => ?_) fun g15 => ?_
    ·fail "w"
     refine lruled_s hX i1.p.bd (by lia) fun t' s' tr => ?_
     fail "w"
     exact leaf t' s' tr
    ·fail "w"
     refine' brD (fun g14 => ?_) fun g14 => ?_
     ·fail "w"
      obtain ⟨a0, sp, ss, rows, font, b4, b5, d4, d5⟩ := s1
      rcases List.eq_nil_or_concat ss with rfl | ⟨r, p, rfl⟩
      ·refine ⟨_, ne_nil (n := 5) rfl rfl, ?_⟩
       refine' stI ?_
       fail "br"
       exact pu
      ·simp only [List.concat_eq_append] at *
       refine ⟨true, ne_nil (n := 5) rfl (by rw [List.map_append]; simp), ?_⟩
       fail "w"
       obtain ⟨a, sp'⟩ := p
       have hl : (r.map fun p => W.ref p.1).length <= 1000000 := by
        have ls : (r ++ [(a, sp')]).length <= k + 1 := ls
        rw [List.length_append] at ls
        rw [List.length_map]; lia
       refine ⟨r.map fun p => W.ref p.1, .ref a, List.map_append, hl, ?_⟩
       have h := h t2 _ T A1 D4 D5 b1 (i1.pop (by lia) rfl)
       rw [stk_snoc]
       have l4 : b4.length <= 100 * (k + 1) := l4
       have l5 : b5.length <= 100 * (k + 1) := l5
       fail "w"
       refine ⟨_, ?_, h⟩
       exact .trans (.pull (n := 15) rfl) (.cons (.tail .rfl))
     ·exact pu
end
end
section
theorem BA.of {P : Addr -> Addr -> Addr -> Addr -> Addr -> Addr -> Prop} (h : ∀ A : BA, P A.src A.a1 A.a2 A.a4 A.a5 A.pg) : ∀ src a1 a2 a4 a5 pg, P src a1 a2 a4 a5 pg := fun src a1 a2 a4 a5 pg => h ⟨src, pg, a1, a2, a4, a5⟩
inductive StI (P K4 : List (Int × W)) (m : Nat) (Z : Tri -> PgS -> List TEnt -> List Int -> Hl) (L0 C0 : LW) (r : List W) (L C : LW) (l : Hl) : Prop
 | i (k : Nat) (t : Tri) (s : PgS) (T' : List TEnt) (A' D4 D5 : List (Int × W)) (b1' : List Int) (e : k + 2 * r.length = m) (i : Inv k K4 P s T' A' D4 D5 b1') (el : l = Z t s T' b1') (eL : L = L0) (eC : C = C0)
inductive PopI (s : PgS) (Z : PgS -> Hl) (L0 C0 : LW) (r : List W) (L C : LW) (l : Hl) : Prop
 | a (er : r = [.int 4, .int 5]) (el : l = Z s) (eL : L = L0) (eC : C = C0)
 | b (er : r = [.int 5]) (el : l = Z { s with b4 := s.b4 ++ List.replicate s.ss.length 142 }) (eL : L = L0) (eC : C = C0)
 | c (er : r = []) (el : l = Z { s with b4 := s.b4 ++ List.replicate s.ss.length 142, b5 := s.b5 ++ List.replicate s.ss.length 142 }) (eL : L = L0) (eC : C = C0)
section
variable {X : Wd} (hX : Good X) {R : Hl} {K : W -> Hl -> Prop} {D : TdA} {F : FA} {t : Tri} {T : List TEnt} {b1 : List Int} {P A1 : List (Int × W)} {src : Addr}
include hX
theorem lpage_s (pm : (A1 ++ P).Perm (trows T)) (df : Defs b1 A1) (nd : (T.map (·.nr)).Nodup) (ok : ∀ t ∈ T, TOk t)
  (h : ∀ A t s cs T' A' D4 D5 b1' k, k <= 20 -> cs.length = 10 /\ (∀ c ∈ cs, -2147483648 <= c /\ c < 2147483648) -> Inv k (trows T) P s T' A' D4 D5 b1' -> K (.ref A.pg) (hS A D F t { s with b4 := s.b4 ++ List.replicate s.ss.length 142, b5 := s.b5 ++ List.replicate s.ss.length 142 } cs T' b1' R)) :
  WC2 X 563 [.ref src, .ref D.tl, .ref F.fo] (.c src (srC t) (hT D T b1 (hF F R))) K := by
 refine en563 hX fun κ => ?_
 fail "w"
 refine far_s hX (n := 0) rfl fun f t1 hf => ?_
 fail "w"
 refine .frI (ns := [0]) rfl ?_
 fail "w"
 refine .nwI (ns := [0, 0, 0, 0, 0, 0]) rfl fun a0 => ?_
 fail "w"
 refine .new fun a1 => ?_
 fail "w"
 refine .new fun a2 => ?_
 fail "w"
 refine .nwI (ns := []) rfl fun a4 => ?_
 fail "w"
 refine .nwI (ns := []) rfl fun a5 => ?_
 fail "w"
 refine lc_int (xs := [0, 1, 2, 3, 4, 5, 6, 7, 8, 9]) (fun x => .int x) (fun x => f - 77 * x) (rg_up (k := 10) rfl (by decide) (by decide)) (by decide) ?_ fun v Q' hv k env => ?_
 rotate_left
 ·fail "w"
  exact k _ _
 have hcs : ([0, 1, 2, 3, 4, 5, 6, 7, 8, 9].map fun x => f - 77 * x).length = 10 /\ ∀ c ∈ [0, 1, 2, 3, 4, 5, 6, 7, 8, 9].map (fun x => f - 77 * x), -2147483648 <= c /\ c < 2147483648 := ⟨rfl, fun c hc => by
  obtain ⟨x, hx, rfl⟩ := List.mem_map.mp hc
  have : ∀ x : Int, x ∈ [0, 1, 2, 3, 4, 5, 6, 7, 8, (9 : Int)] -> 0 <= x /\ x <= 9 := by decide
  have := this x hx
  obtain ⟨h1, h2⟩ := hf
  lia⟩
 revert hcs
 generalize [0, 1, 2, 3, 4, 5, 6, 7, 8, 9].map (fun x => f - 77 * x) = cs
 intro hcs
 fail "w"
 refine .new fun pg => ?_
 fail "w"
 refine .pre (.pull (n := 5) rfl) (take_s hX (n := 6) rfl (by decide) fun d t2 hd => ?_)
 obtain ⟨d, d1, rfl⟩ := ways hd
 revert src pg a1 a2 a4 a5
 apply BA.of
 intro A
 fail "w"
 refine for_i (StI P (trows T) (2 * (3 + d)) (fun t s T' b1' => hS A D F t s cs T' b1' R) _ _) (rg_up (k := 3 + d) (by lia) (by decide) (by lia))
  ⟨0, t2, s0 a0, T, A1, [], [], b1, by rw [rgW_len]; lia, .start a0 pm df nd ok, rfl, rfl, rfl⟩ ?_ ?_
 rotate_left
 ·rintro v r L C l ⟨k, t, s, T', A', D4, D5, b1', hr, i, rfl, rfl, rfl⟩
  simp only [List.length_cons] at hr
  fail "w"
  refine lstep_s hX i (by lia) fun t s T A1 D4 D5 b1 i => ?_
  fail "w"
  exact .next [4] Sub.rfl ⟨k + 2, t, s, T, A1, D4, D5, b1, by lia, i, rfl, rfl, rfl⟩
 rintro L C l ⟨k, t, s, T', A', D4, D5, b1', hr, i, rfl, rfl, rfl⟩
 have hr : k + 0 = 2 * (3 + d) := hr
 have l4 := i.p.bd.l4
 have l5 := i.p.bd.l5
 have ls := i.p.bd.sl
 have hm : (s.ss.map fun p => W.ref p.1).length = s.ss.length := List.length_map ..
 have hn : (List.replicate s.ss.length (142 : Int)).length = s.ss.length := List.length_replicate
 fail "w"
 have h := fun t => h A t s cs T' A' D4 D5 b1' k (by lia) hcs i
 refine for_i (PopI s (fun s => hS A D F t s cs T' b1' R) _ _) (.inl ⟨rfl, rfl⟩) (.a rfl rfl rfl rfl) ?_ ?_
 ·intro L C l i
  induction i with
  | a er => cases er
  | b er => cases er
  | c er el eL eC =>
  subst el eL eC
  fail "w"
  exact h t
 ·intro v r L C l i
  induction i with
  | a er el eL eC =>
   subst el eL eC
   cases er
   fail "w"
   refine .frI (ns := [142]) rfl ?_
   fail "w"
   refine .frI (ns := List.replicate s.ss.length 142) (by rw [List.length_map]; exact List.map_replicate.symm) ?_
   fail "w"
   exact .next [5] Sub.rfl (.b rfl rfl rfl rfl)
  | b er el eL eC =>
   subst el eL eC
   cases er
   fail "w"
   refine .frI (ns := [142]) rfl ?_
   fail "w"
   refine .frI (ns := List.replicate s.ss.length 142) (by rw [List.length_map]; exact List.map_replicate.symm) ?_
   fail "w"
   exact .next [5] Sub.rfl (.c rfl rfl rfl rfl)
  | c er => cases er
end
end
section
theorem RH.frL {F : Fz} {l : Hl} {H : Hp} (h : RH F l H) {n : Nat} {a : Addr} {ws : List W} (e : l.at n = some (a, .list ws)) : ∃ F' vs, Fle F F' /\ F' a = some (.list vs) /\ RVs F' ws vs /\ RH F' (l.set n (.frz ws)) H := by
 obtain ⟨vs, hc, r⟩ := h.get e
 have q := h.freeze (y := .frz ws) e rfl rfl hc ⟨vs, Hp.set_same _ _ _, r.up ?_⟩
 ·exact ⟨_, vs, q.1, Hp.set_same _ _ _, r.up q.1, q.2⟩
 ·intro b d hb
  refine (Hp.set_ne fun z : b = a => (h.fz _ _ hb).2 (z ▸ Hl.at_adr e a (.head _))).trans hb
theorem RH.frI {F : Fz} {l : Hl} {H : Hp} (h : RH F l H) {n : Nat} {a : Addr} {x : List Int} (e : l.at n = some (a, .il x)) : ∃ F', Fle F F' /\ F' a = some (.list (x.map .int)) /\ RH F' (l.set n (.frz (x.map .int))) H := by
 have hc := h.get e
 have q := h.freeze (y := .frz (x.map .int)) e rfl rfl hc ⟨_, Hp.set_same _ _ _, RVs.ints x⟩
 exact ⟨_, q.1, Hp.set_same _ _ _, q.2⟩
theorem WC2.frz {X : Wd} {a : Addr} {ws : List W} {l : Hl} {K : W -> Hl -> Prop} (h : WC2 X a ws l fun w l' => ∃ (pg a0 a1 a2 a4 a5 : Addr) (f d4 d5 c : W) (b4 b5 : List Int) (rows : List W) (R : Hl), w = .ref pg /\
  Sub l' (.c pg (.list [.ref a0, .ref a1, .ref a2, f, .ref a4, .ref a5, d4, d5, c]) (.c a5 (.il b5) (.c a4 (.il b4) (.c a2 (.list rows) R)))) /\ K (.lst [.ref a0, .ref a1, .lst rows, f, .il b4, .il b5, d4, d5, c]) R) : WC2 X a ws l K := fun F vs H r rh => (h F vs H r rh).mono fun O O p => p.rec fun g r h q => by
 refine cps fun G0 z0 => ?_
 obtain ⟨pg, a0, a1, a2, a4, a5, f, d4, d5, c, b4, b5, rows, R, rfl, sb, k⟩ := q
 obtain ⟨F2, g2, e5, h2⟩ := (h.sub sb).frI (n := 1) rfl
 obtain ⟨F3, g3, e4, h3⟩ := h2.frI (n := 2) rfl
 obtain ⟨F4, v2, g4, e2, r2, h4⟩ := h3.frL (n := 3) rfl
 obtain ⟨F5, vp, g5, ep, rp, h5⟩ := h4.frL (n := 0) rfl
 obtain ⟨_, _, rfl, q0, _, _, rfl, q1, _, _, rfl, q2, _, _, rfl, q3, _, _, rfl, q4, _, _, rfl, q5, q⟩ := rp
 refine z0 ?_
 clear z0
 exact .mk (w := .lst [.ref a0, .ref a1, .lst rows, f, .il b4, .il b5, d4, d5, c]) (((g.trans g2).trans g3).trans (g4.trans g5)) ⟨pg, _, r, ep, _, _, rfl, q0, _, _, rfl, q1, _, _, rfl, ⟨a2, v2, q2, g5 _ _ e2, r2.up g5⟩, _, _, rfl, q3, _, _, rfl, ⟨a4, q4, g5 _ _ (g4 _ _ e4)⟩, _, _, rfl, ⟨a5, q5, g5 _ _ (g4 _ _ (g3 _ _ e5))⟩, q⟩ (h5.sub (.tail (.tail (.tail (.tail .rfl))))) k
structure PDone (K4 P : List (Int × W)) (s : PgS) (T : List TEnt) (Ad D4 D5 : List (Int × W)) (b1 : List Int) : Prop where
 kT : trows T = K4 ++ D4
 r4 : ∃ q, Reads K4 s.b4 q0 q D4 /\ q.stack = [] /\ q.rows = s.rows /\ q.deepest = s.d4
 r5 : ∀ KA, (∀ t ∈ T, lkG D5 t.nr = none -> ∃ v, lkG KA t.nr = some v) -> (∀ t ∈ T, lkG D5 t.nr ≠ none -> lkG KA t.nr = none) -> KA.length <= 900 -> ∃ q, Reads KA s.b5 q0 q D5 /\ q.stack = [] /\ q.rows = s.rows /\ q.deepest = s.d5
 pm : (Ad ++ (P ++ D5)).Perm (trows T)
 df : Defs b1 Ad
 nd : (T.map (·.nr)).Nodup
 ok : ∀ t ∈ T, TOk t
 dn : ∀ p ∈ D5, lkG K4 p.1 = none
 l4 : s.b4.length <= 4000 /\ ∀ i ∈ s.b4, 0 <= i /\ i < 256
 l5 : s.b5.length <= 4000 /\ ∀ i ∈ s.b5, 0 <= i /\ i < 256
 rl : s.rows.length <= 100
 fl : s.rows.all (W.pl 1) = true
 d4 : 0 <= s.d4 /\ s.d4 <= 60
 d5 : 0 <= s.d5 /\ s.d5 <= 60
theorem Inv.done {k : Nat} {K4 P : List (Int × W)} {s : PgS} {T : List TEnt} {Ad D4 D5 : List (Int × W)} {b1 : List Int} (i : Inv k K4 P s T Ad D4 D5 b1) (hk : k <= 30) :
  PDone K4 P ⟨s.a0, s.sp, s.ss, s.rows, s.font, s.b4 ++ List.replicate s.ss.length 142, s.b5 ++ List.replicate s.ss.length 142, s.d4, s.d5⟩ T Ad D4 D5 b1 := by
 obtain ⟨h, pm, df⟩ := i
 have hb := h.bd
 have a1 := hb.sl
 have a2 := hb.rl
 have a3 := hb.l4
 have a4 := hb.l5
 have a5 := hb.d4
 have a6 := hb.d5
 have orep : ∀ i ∈ List.replicate s.ss.length (142 : Int), 0 <= i /\ i < 256 := fun i hi => by rw [List.eq_of_mem_replicate hi]; lia
 refine ⟨h.kT, ?_, fun KA c1 c2 c3 => ?_, pm, df, h.nd, h.ok, h.dn, ⟨by simp; lia, oct_app hb.o4 orep⟩, ⟨by simp; lia, oct_app hb.o5 orep⟩, by show s.rows.length <= _; lia, hb.fl, by show 0 <= s.d4 /\ s.d4 <= _; lia, by show 0 <= s.d5 /\ s.d5 <= _; lia⟩
 ·refine cps fun G0 z0 => ?_
  obtain ⟨q, r1, r2, r3, r4⟩ := rd_pops (k := k) (kv := K4 ++ D4) s.ss.length s s.d4 rfl hb.sp hb.ss a1 a2 (by lia)
  refine z0 ?_
  clear z0
  have := h.r4.append r1
  exact ⟨q, by simpa using this, r2, r3, r4⟩
 ·obtain ⟨q, r1, r2, r3, r4⟩ := rd_pops (k := k) (kv := KA ++ D5) s.ss.length s s.d5 rfl hb.sp hb.ss a1 a2 (by lia)
  have := (h.r5 KA c1 c2 c3).append r1
  exact ⟨q, by simpa using this, r2, r3, r4⟩
theorem Sub.stk : ∀ {ss : List (Addr × Spot)} {R : Hl}, Sub (Mine.stk ss R) R
 | [], _ => .rfl
 | _ :: ss, _ => .trans (Sub.stk (ss := ss)) (.tail .rfl)
noncomputable abbrev pgV (s : PgS) (a1 : Addr) (cs : List Int) : W := .lst [.ref s.a0, .ref a1, .lst s.rows, .int s.font, .il s.b4, .il s.b5, .int s.d4, .int s.d5, .il cs]
theorem lpage_f {X : Wd} (hX : Good X) {R : Hl} {K : W -> Hl -> Prop} {D : TdA} {F : FA} {t : Tri} {T : List TEnt} {b1 : List Int} {P A1 : List (Int × W)} {src : Addr} (pm : (A1 ++ P).Perm (trows T)) (df : Defs b1 A1) (nd : (T.map (·.nr)).Nodup) (ok : ∀ t ∈ T, TOk t)
  (h : ∀ s a1 cs T' A' D4 D5 b1', cs.length = 10 /\ (∀ c ∈ cs, -2147483648 <= c /\ c < 2147483648) -> PDone (trows T) P s T' A' D4 D5 b1' -> K (pgV s a1 cs) (hT D T' b1' (hF F R))) :
  WC2 X 563 [.ref src, .ref D.tl, .ref F.fo] (.c src (srC t) (hT D T b1 (hF F R))) K :=
 .frz <| lpage_s hX pm df nd ok fun A t s cs T' A' D4 D5 b1' k hk hcs i => ⟨A.pg, s.a0, A.a1, A.a2, A.a4, A.a5, _, _, _, _, _, _, _, hT D T' b1' (hF F R), rfl,
  .tail (.cons (.cons (.cons (.cons (.tail (.tail (.cons (.cons (.cons (.cons (.cons (.cons (.cons (.cons (.stk))))))))))))))), h { s with b4 := s.b4 ++ List.replicate s.ss.length 142, b5 := s.b5 ++ List.replicate s.ss.length 142 } A.a1 cs T' A' D4 D5 b1' hcs (i.done (by lia))⟩
end
section
section
variable {X : Wd} (hX : Good X) {l R : Hl} {K : W -> Hl -> Prop}
include hX
theorem source_s {ns : List Int} {k : Int} (hl : ns.length <= 64) (hk : 0 <= k /\ k <= 100) (h : ∀ c t, K (.ref c) (.c c (srC t) l)) : WC2 X 466 [.il ns, .int k] l K := by
 have hm : (ns.map W.int).length = ns.length := List.length_map ..
 refine en466 hX fun κ => ?_
 fail "w"
 refine' brLE (fun h0 => ?_) fun h0 => ?_
 ·fail "w"
  refine ixA ⟨hk.1, by lia⟩ (by lia) fun v hv => ?_
  fail "w"
  refine .nwI (ns := [_, _, _]) rfl fun c => ?_
  fail "w"
  exact h c ⟨_, _, _⟩
 ·fail "w"
  refine lc_int (xs := ns) (fun x => .int x) (fun x => if x < 0 then -x else x) (.inl ⟨rfl, rfl⟩) (by lia) ?_ fun v Q' hv k env => ?_
  ·fail "w"
   intro i
   fail "w"
   refine .nwI (ns := [_, _, _]) rfl fun c => ?_
   fail "w"
   exact h c ⟨_, _, _⟩
  ·fail "w"
   exact k _ _
end
end
section
noncomputable def cntL (cs : List Int) : List Int := (cs.map fun c => putB c 4).flatten
noncomputable def pageL (idle : List Int) (last : Int) (p : List Int × List Int) : List Int := 139 :: (cntL p.1 ++ (putB last 4 ++ (p.2 ++ (140 :: idle))))
noncomputable def bodyL (idle : List Int) : Nat -> Int -> List (List Int × List Int) -> List Int
 | _, _, [] => []
 | pos, last, p :: r => pageL idle last p ++ bodyL idle (pos + (pageL idle last p).length) pos r
noncomputable def lastL (idle : List Int) : Nat -> Int -> List (List Int × List Int) -> Int
 | _, last, [] => last
 | pos, last, p :: r => lastL idle (pos + (pageL idle last p).length) pos r
theorem bodyL_c {li : List Int} {pos last p r} : bodyL li pos last (p :: r) = pageL li last p ++ bodyL li (pos + (pageL li last p).length) pos r := rfl
theorem lastL_c {li : List Int} {pos last p r} : lastL li pos last (p :: r) = lastL li (pos + (pageL li last p).length) pos r := rfl
noncomputable def headL (l0 l1 lf : List Int) : List Int := [247, 2] ++ (l0 ++ (l1 ++ lf))
noncomputable def fullL (l0 l1 lf li : List Int) (ps : List (List Int × List Int)) : List Int := headL l0 l1 lf ++ bodyL li (headL l0 l1 lf).length (-1) ps
noncomputable def fileL (l0 l1 l2 lf li ld : List Int) (ps : List (List Int × List Int)) (st : Int) (m : Nat) : List Int :=
 fullL l0 l1 lf li ps ++ ([248] ++ (putB (lastL li (headL l0 l1 lf).length (-1) ps) 4 ++ (l0 ++ (l2 ++ (putB st 2 ++ (putB ps.length 2 ++ (li ++ (ld ++ ([249] ++ (putB (fullL l0 l1 lf li ps).length 4 ++ ([2] ++ List.replicate m 223)))))))))))
theorem cnt_len (cs : List Int) : (cntL cs).length = 4 * cs.length := by
 unfold cntL
 rw [List.length_flatten, List.map_map]
 induction cs with
 | nil => rfl
 | cons c r ih => simp only [List.map_cons, List.sum_cons, ih, List.length_cons]; simp only [Function.comp, putB_len]; lia
noncomputable def cF : Cd := .i 1 (.neg (.sl 9 (.sl 8 (.l 1 (.for_ (.sl 10 (.l 8 (.b .len 1 (.lst 0 (.sl 12 (.sl 11 (.l 10 (.gi 8 (.for_ (.sl 13 (.l 12 (.l 13 (.i 4 (.f 485 2 (.add (.sl 12 .done))))))) (.l 8 (.i 139 (.lst 1 (.add (.l 12 (.add (.l 9 (.i 4 (.f 485 2 (.add (.l 10 (.l 2 (.sub (.add (.i 140 (.lst 1 (.add (.l 4 (.add (.sl 8 (.l 11 (.sl 9 .done))))))))))))))))))))))))))))))) (.l 8 (.b .len 1 (.sl 14 (.l 8 (.i 248 (.lst 1 (.add (.l 9 (.i 4 (.f 485 2 (.add (.l 0 (.gi 0 (.add (.l 0 (.gi 2 (.add (.l 6 (.i 2 (.f 485 2 (.add (.l 1 (.b .len 1 (.i 2 (.f 485 2 (.add (.sl 8 (.l 8 (.l 4 (.add (.l 5 (.add (.i 249 (.lst 1 (.add (.l 14 (.i 4 (.f 485 2 (.add (.i 2 (.lst 1 (.add (.i 223 (.lst 1 (.l 7 (.mul (.add (.b .bytes 1 .ret)))))))))))))))))))))))))))))))))))))))))))))))))))))
theorem page_len (idle : List Int) (last : Int) (p : List Int × List Int) : (pageL idle last p).length = 6 + 4 * p.1.length + p.2.length + idle.length := by
 unfold pageL
 simp only [List.length_cons, List.length_append, cnt_len, putB_len]
 lia
structure Pg where
 s : PgS
 a1 : Addr
 cs : List Int
noncomputable abbrev Pg.w (q : Pg) : W := pgV q.s q.a1 q.cs
noncomputable def Pg.f (k : Int) (q : Pg) : List Int × List Int := (q.cs, if k = 4 then q.s.b4 else q.s.b5)
structure Pg.ok (q : Pg) : Prop where
 c : q.cs.length = 10
 l4 : q.s.b4.length <= 4000
 l5 : q.s.b5.length <= 4000
inductive FlI (k : Int) (li f0 : List Int) (qs : List Pg) (Lf : List Int -> Int -> LW) (C0 : LW) (l0 : Hl) (r : List W) (L C : LW) (l : Hl) : Prop
 | i (rs : List Pg) (f : List Int) (last : Int) (er : r = rs.map Pg.w) (ho : ∀ q ∈ rs, q.ok) (h1 : f ++ bodyL li f.length last (rs.map (Pg.f k)) = f0 ++ bodyL li f0.length (-1) (qs.map (Pg.f k))) (h2 : lastL li f.length last (rs.map (Pg.f k)) = lastL li f0.length (-1) (qs.map (Pg.f k))) (hz : f.length + 5000 * rs.length <= 20000) (eL : L = Lf f last) (eC : C = C0) (el : l = l0)
inductive CnI (cs : List Int) (Lf : List Int -> LW) (C0 : LW) (l0 : Hl) (r : List W) (L C : LW) (l : Hl) : Prop
 | i (c1 c2 : List Int) (er : r = c2.map .int) (hc : cs = c1 ++ c2) (eL : L = Lf c1) (eC : C = C0) (el : l = l0)
section
variable {X : Wd} (hX : Good X) {l R : Hl} {K : W -> Hl -> Prop}
include hX
theorem file_t {κ : Kx} {f0 l0 l1 l2 lf li ld : List Int} {pa : Addr} {n : Nat} {qs : List Pg} {k : Int} {fr : W} {st m : Int} {l' : Hl} (its : Its (.ref pa) l (qs.map Pg.w) l') (e : l'.at n = some (pa, .frz (qs.map Pg.w))) (hq : ∀ q ∈ qs, q.ok) (hk : k = 4 \/ k = 5) (hl : qs.length <= 3) (hf : f0.length <= 2000) (z0 : l0.length <= 100) (z2 : l2.length <= 100) (zi : li.length <= 100) (zd : ld.length <= 1000) (hm : 0 <= m /\ m <= 1000) (hf0 : f0 = headL l0 l1 lf)
  (ho : ∀ i ∈ fileL l0 l1 l2 lf li ld (qs.map (Pg.f k)) st m.toNat, 0 <= i /\ i < 256) (h : K (.bytes (byteArr (fileL l0 l1 l2 lf li ld (qs.map (Pg.f k)) st m.toNat))) l') :
  ru X κ (RQ K) cF [.il f0] (.s (.tup [.il l0, .il l1, .il l2]) (.s (.ref pa) (.s (.int k) (.s fr (.s (.il li) (.s (.il ld) (.s (.int st) (.s (.int m) (.o (.o (.o (.o (.o (.o (.o .nil))))))))))))))) .nil l := by
 fail "w"
 refine for_i (FlI k li f0 qs (fun f last => .s (.tup [.il l0, .il l1, .il l2]) (.s (.ref pa) (.s (.int k) (.s fr (.s (.il li) (.s (.il ld) (.s (.int st) (.s (.int m) (.s (.il f) (.s (.int last) (.o (.o (.o (.o (.o .nil))))))))))))))) _ _) its ⟨qs, f0, -1, rfl, hq, rfl, rfl, by lia, rfl, rfl, rfl⟩ ?_ ?_
 ·intro L C lh i
  obtain ⟨rs, f, last, hr, hq, h1, h2, hz, eL, eC, el⟩ := i
  obtain rfl := List.map_eq_nil_iff.mp hr.symm
  clear hr
  subst eL eC el
  have n1 := putB_len last 4
  have n2 := putB_len st 2
  have n3 := putB_len qs.length 2
  have n4 := putB_len f.length 4
  have zf : f.length <= 20000 := Nat.le_trans (Nat.le_add_right _ _) hz
  have h1 := (List.append_nil f).symm.trans h1
  have h2 : last = _ := h2
  have hF : f ++ [248] ++ putB last 4 ++ l0 ++ l2 ++ putB st 2 ++ putB qs.length 2 ++ li ++ ld ++ [249] ++ putB f.length 4 ++ [2] ++ List.replicate m.toNat 223 = fileL l0 l1 l2 lf li ld (qs.map (Pg.f k)) st m.toNat := by
   dsimp only [fileL, fullL]
   rw [<- hf0, <- h1, <- h2, List.length_map]
   simp only [List.append_assoc]
  fail "w"
  rw [List.length_map]
  refine put_s hX (k := 4) rfl (Nat.le_refl _) ?_
  fail "w"
  refine put_s hX (k := 2) rfl (by decide) ?_
  fail "w"
  rw [List.length_map]
  refine put_s hX (k := 2) rfl (by decide) ?_
  fail "w"
  refine put_s hX (k := 4) rfl (Nat.le_refl _) ?_
  fail "w"
  refine .frI (ns := List.replicate m.toNat 223) List.map_replicate.symm ?_
  have n5 : (List.replicate m.toNat (223 : Int)).length = m.toNat := List.length_replicate
  fail "w"
  rw [hF]
  have hz2 := congrArg List.length hF
  simp only [List.length_append, List.length_cons, List.length_nil, n1, n2, n3, n4, n5] at hz2
  refine sd ⟨ho, by lia⟩ ?_
  fail "w"
  exact h
 ·intro v r L C lh i
  obtain ⟨rs, f, last, hr, hq, h1, h2, hz, eL, eC, el⟩ := i
  cases rs with
  | nil => cases hr
  | cons q rs =>
   cases hr
   subst eL eC el
   have zf : f.length <= 20000 := Nat.le_trans (Nat.le_add_right _ _) hz
   simp only [List.length_cons] at hz
   obtain ⟨oc, o4, o5⟩ := hq q (.head _)
   fail "w"
   simp only [List.length_map]
   refine for_i (CnI q.cs (fun c1 => .s (.tup [.il l0, .il l1, .il l2]) (.s (.ref pa) (.s (.int k) (.s fr (.s (.il li) (.s (.il ld) (.s (.int st) (.s (.int m) (.s (.il f) (.s (.int last) (.s q.w (.s (.int f.length) (.s (.il (cntL c1)) (.o (.o .nil))))))))))))))) _ _) (.inl ⟨rfl, rfl⟩) ⟨[], q.cs, rfl, rfl, rfl, rfl, rfl⟩ ?_ ?_
   ·intro L C l i
    obtain ⟨c1, c2, hr, hc, eL, eC, el⟩ := i
    obtain rfl := List.map_eq_nil_iff.mp hr.symm
    rw [List.append_nil] at hc
    rw [<- hc] at eL
    clear hr hc
    subst eL eC el
    have n1 := cnt_len q.cs
    have n2 := putB_len last 4
    have n3 : (q.f k).2.length <= 4000 := by rcases hk with rfl | rfl; exact o4; exact o5
    fail "w"
    refine put_s hX (k := 4) rfl (Nat.le_refl _) ?_
    fail "w"
    refine ixI (v := .il (q.f k).2) (by lia) (by lia) (by rcases hk with rfl | rfl <;> rfl) ?_
    fail "w"
    fail "w"
    rw [show f ++ [139] ++ cntL q.cs ++ putB last 4 ++ (q.f k).2 ++ [140] ++ li = f ++ pageL li last (q.f k) by unfold pageL; simp only [List.append_assoc]; rfl]
    have hp := page_len li last (q.f k)
    have oc : (q.f k).1.length = 10 := oc
    rw [List.map_cons, bodyL_c, <- List.append_assoc, <- List.length_append] at h1
    rw [List.map_cons, lastL_c, <- List.length_append] at h2
    exact .next [10, 11, 12, 13] Sub.rfl ⟨rs, _, _, rfl, fun q hq' => hq q (.tail _ hq'), h1, h2, by rw [List.length_append, hp]; lia, rfl, rfl, rfl⟩
   ·intro v r L C l i
    obtain ⟨c1, c2, hr, hc, eL, eC, el⟩ := i
    cases c2 with
    | nil => cases hr
    | cons c c2 =>
     cases hr
     subst eL eC el
     have hcn : cntL (c1 ++ [c]) = cntL c1 ++ putB c 4 := by unfold cntL; rw [List.map_append, List.flatten_append]; exact congrArg (_ ++ ·) (List.append_nil _)
     have n1 := cnt_len c1
     have n2 := putB_len c 4
     have n3 := congrArg List.length hc
     rw [List.length_append] at n3
     fail "w"
     refine put_s hX (k := 4) rfl (Nat.le_refl _) ?_
     fail "w"
     exact .next [13] Sub.rfl ⟨c1 ++ [c], c2, rfl, by rw [hc, List.append_assoc]; rfl, by rw [hcn]; rfl, rfl, rfl⟩
theorem lfile_i {l0 l1 l2 lf li ld : List Int} {pa : Addr} {n : Nat} {qs : List Pg} {k : Int} {st m : Int} {l' : Hl} (its : Its (.ref pa) l (qs.map Pg.w) l') (e : l'.at n = some (pa, .frz (qs.map Pg.w))) (hq : ∀ q ∈ qs, q.ok) (hk : k = 4 \/ k = 5) (hl : qs.length <= 3) (z0 : l0.length <= 100) (z1 : l1.length <= 100) (z2 : l2.length <= 100) (zf : lf.length <= 1000) (zi : li.length <= 100) (zd : ld.length <= 1000) (hm : 0 <= m /\ m <= 1000)
  (ho : ∀ i ∈ fileL l0 l1 l2 lf li ld (qs.map (Pg.f k)) st m.toNat, 0 <= i /\ i < 256) (h : K (.bytes (byteArr (fileL l0 l1 l2 lf li ld (qs.map (Pg.f k)) st m.toNat))) l') : WC2 X 570 [.tup [.il l0, .il l1, .il l2], .ref pa, .int k, .il lf, .il li, .il ld, .int st, .int m] l K := by
 refine en570 hX fun κ => ?_
 iterate 3 (refine' stI ?_; fail "r")
 exact file_t hX its e hq hk hl (by rw [List.length_append, List.length_append, List.length_append]; show 2 + _ + _ + _ <= _; lia) z0 z2 zi zd hm (by unfold headL; simp only [List.append_assoc]) ho h
theorem lfile_r {l0 l1 l2 lf li ld : List Int} {pa : Addr} {n : Nat} {qs : List Pg} {k : Int} {st m : Int} {l' : Hl} (its : Its (.ref pa) l (qs.map Pg.w) l') (e : l'.at n = some (pa, .frz (qs.map Pg.w))) (hq : ∀ q ∈ qs, q.ok) (hk : k = 4 \/ k = 5) (hl : qs.length <= 3) (z0 : l0.length <= 100) (z1 : l1.length <= 100) (z2 : l2.length <= 100) (zf : lf.length <= 1000) (zi : li.length <= 100) (zd : ld.length <= 1000) (hm : 0 <= m /\ m <= 1000)
  (ho : ∀ i ∈ fileL l0 l1 l2 lf li ld (qs.map (Pg.f k)) st m.toNat, 0 <= i /\ i < 256) (h : K (.bytes (byteArr (fileL l0 l1 l2 lf li ld (qs.map (Pg.f k)) st m.toNat))) l') {j : Nat} {fr : Addr} (ef : l.at j = some (fr, .il lf)) : WC2 X 570 [.tup [.il l0, .il l1, .il l2], .ref pa, .int k, .ref fr, .il li, .il ld, .int st, .int m] l K := by
 refine en570 hX fun κ => ?_
 iterate 4 (refine' stI ?_; fail "r")
 exact file_t hX its e hq hk hl (by rw [List.length_append, List.length_append, List.length_append]; show 2 + _ + _ + _ <= _; lia) z0 z2 zi zd hm (by unfold headL; simp only [List.append_assoc]) ho h
end
end
section
noncomputable abbrev csOK (cs : List Int) : Prop := cs.length = 10 /\ ∀ c ∈ cs, -2147483648 <= c /\ c < 2147483648
structure PR where
 cs : List Int
 b : List Int
 rows : List W
 dq : Int
noncomputable abbrev PR.p (r : PR) : List Int × List Int := (r.cs, r.b)
noncomputable abbrev PR.v (r : PR) : W := .tup [.tup (r.cs.map W.int), .tup r.rows]
inductive Run : List (Int × W) -> List PR -> List (Int × W) -> Prop
 | nil {kv} : Run kv [] kv
 | cons {kv kv' D r rest} (hc : csOK r.cs) (hr : ∃ q, Reads kv r.b q0 q D /\ q.stack = [] /\ q.rows = r.rows /\ q.deepest = r.dq) (hl : r.rows.length <= 1000) (h : Run (kv ++ D) rest kv') : Run kv (r :: rest) kv'
theorem Body.nops {last kv pgs deep bs l k p d} (m : Nat) : ∀ {pos : Nat}, Body (pos + m) last kv pgs deep bs l k p d -> Body pos last kv pgs deep (List.replicate m 138 ++ bs) l k p d := by
 induction m with
 | zero => exact id
 | succ m ih => exact fun {pos} h => .nop (ih (by rwa [Nat.add_assoc, Nat.add_comm 1 m]))
theorem Run.body {kv kv' : List (Int × W)} {rs : List PR} (h : Run kv rs kv') (mi : Nat) : ∀ (pos : Nat) (last : Int) (pgs : List W) (deep : Int), -1 <= last -> last < 100000000 -> pos + (bodyL (List.replicate mi 138) pos last (rs.map PR.p)).length <= 100000000 -> pgs.length + rs.length <= 1000 ->
  Body pos last kv pgs deep (bodyL (List.replicate mi 138) pos last (rs.map PR.p)) (lastL (List.replicate mi 138) pos last (rs.map PR.p)) kv' (pgs ++ rs.map PR.v) (rs.foldl (fun d r => max d r.dq) deep) := by
 induction h with
 | nil => intro pos last pgs deep _ _ _ _; rw [List.map_nil, List.map_nil, List.append_nil]; exact Body.nil
 | @cons kv kv' D r rest hc hr hl h ih =>
  intro pos last pgs deep h1 h2 h3 h4
  refine cps fun G0 z0 => ?_
  obtain ⟨q, r1, r2, r3, r4⟩ := hr
  refine z0 ?_
  clear z0
  have hpl := page_len (List.replicate mi 138) last r.p
  simp only [PR.p, hc.1, List.length_replicate] at hpl
  simp only [List.map_cons, bodyL_c, lastL_c, List.length_append] at h3 ⊢
  have hpos : pos + (pageL (List.replicate mi 138) last r.p).length = pos + 46 + r.b.length + mi := by rw [hpl]; lia
  have ih' := ih (pos + (pageL (List.replicate mi 138) last r.p).length) pos (pgs ++ [r.v]) (max deep r.dq) (by lia) (by lia) (by lia) (by simp at h4 ⊢; lia)
  have hse : (r.cs.map fun c => putB c 4).map (seV 4) = r.cs := by
   rw [List.map_map]
   conv => rhs; rw [<- List.map_id r.cs]
   exact List.map_congr_left fun c hcm => seV_put4 (hc.2 c hcm).1 (hc.2 c hcm).2
  have hseV : pgW (r.cs.map fun c => putB c 4) q = r.v := by unfold pgW; rw [hse, r3]
  have key : Body pos last kv pgs deep (139 :: ((r.cs.map fun c => putB c 4).flatten ++ (putB last 4 ++ (r.b ++ (140 :: (List.replicate mi 138 ++ bodyL (List.replicate mi 138) (pos + (pageL (List.replicate mi 138) last r.p).length) pos (rest.map PR.p))))))) (lastL (List.replicate mi 138) (pos + (pageL (List.replicate mi 138) last r.p).length) pos (rest.map PR.p)) kv' (pgs ++ (r.v :: rest.map PR.v)) (rest.foldl (fun d r => max d r.dq) (max deep r.dq)) := by
   refine Body.page (cb := r.cs.map fun c => putB c 4) (bl := putB last 4) (body := r.b) (q1 := q) (dd := D) (by rw [List.length_map]; exact hc.1) (fun x hx => ?_) (putB_len _ _) (seV_put4 (by lia) (by lia)) r1 r2 (by rw [r3]; lia) (by simp at h4; lia) ?_
   ·obtain ⟨c, _, rfl⟩ := List.mem_map.mp hx; exact putB_len _ _
   ·rw [hseV, r4]
    refine Body.nops mi ?_
    rw [<- hpos]
    have e : pgs ++ [r.v] ++ rest.map PR.v = pgs ++ (r.v :: rest.map PR.v) := by simp
    rw [<- e]
    exact ih'
  have e2 : pageL (List.replicate mi 138) last r.p ++ bodyL (List.replicate mi 138) (pos + (pageL (List.replicate mi 138) last r.p).length) pos (rest.map PR.p) = 139 :: ((r.cs.map fun c => putB c 4).flatten ++ (putB last 4 ++ (r.b ++ (140 :: (List.replicate mi 138 ++ bodyL (List.replicate mi 138) (pos + (pageL (List.replicate mi 138) last r.p).length) pos (rest.map PR.p)))))) := by
   conv => lhs; arg 1; unfold pageL cntL
   simp
  rw [e2]
  exact key
theorem Defs.body {b : List Int} {A : List (Int × W)} (h : Defs b A) : ∀ {pos last pgs deep bs l k p d}, (A.map (·.1)).Nodup -> A.length <= 900 -> Body (pos + b.length) last A pgs deep bs l k p d -> Body pos last [] pgs deep (b ++ bs) l k p d := by
 induction h with
 | nil => intro pos last pgs deep bs l k p d _ _ h; simpa using h
 | @snoc b A r m nr row h hd hl ho ih =>
  intro pos last pgs deep bs l k p d nd hlen hb
  rw [List.map_append, List.nodup_append] at nd
  rw [List.length_append] at hlen
  have hn : lkG A nr = none := by
   cases z : lkG A nr with
   | none => rfl
   | some v => exact absurd rfl (nd.2.2 nr (List.mem_map_of_mem (f := (·.1)) (lk_mem z)) nr (by simp))
  have e : b ++ ((242 + (m : Int)) :: r) ++ bs = b ++ ((242 + (m : Int)) :: (r ++ bs)) := by simp
  rw [e]
  refine ih nd.1 (by lia) (.fdef hd hn (by lia) ?_)
  have hp : pos + (b ++ ((242 + (m : Int)) :: r)).length = pos + b.length + 1 + r.length := by simp; lia
  rwa [hp] at hb
end
section
theorem told_of {B : Array UInt8} {a b c t w st : Int} {co lf ld : List Int} {mi m : Nat} {Af kv T2 : List (Int × W)} {rs : List PR} (ha : 0 < a /\ a < 2147483648) (hb : 0 < b /\ b < 2147483648) (hc : 0 < c /\ c < 2147483648) (ht : far t) (hw : far w) (hco : ∀ i ∈ co, 0 <= i /\ i < 256) (hcl : co.length <= 100)
  (hkv : kv.length <= 10000000) (hd : Defs lf Af) (nd : (Af.map (·.1)).Nodup) (hAl : Af.length <= 900) (hr : Run Af rs kv) (hp : Post kv [] (List.replicate mi 138 ++ ld) T2) (hl : T2.length = kv.length) (hst : rs.foldl (fun d r => max d r.dq) 0 <= st /\ 0 <= st /\ st < 65536) (hm : 4 <= m) (hrl : rs.length <= 100)
  (ho : octs B = fileL (putB a 4 ++ (putB b 4 ++ putB c 4)) ((co.length : Int) :: co) (putB t 4 ++ putB w 4) lf (List.replicate mi 138) ld (rs.map PR.p) st m) (hB : B.size <= 10000000) :
  Told B (.tup [.int a, .int b, .int c]) (.bytes (byteArr co)) (rs.map PR.v) kv t w (rs.foldl (fun d r => max d r.dq) 0) := by
 have hlen : (octs B).length <= 10000000 := by rw [octs_len]; exact hB
 have hcs : (byteArr co).size = co.length := byteArr_size co
 have hhl : (headL (putB a 4 ++ (putB b 4 ++ putB c 4)) ((co.length : Int) :: co) lf).length = 15 + co.length + lf.length := by simp [headL, putB_len]; lia
 have hfl : (fullL (putB a 4 ++ (putB b 4 ++ putB c 4)) ((co.length : Int) :: co) lf (List.replicate mi 138) (rs.map PR.p)).length = 15 + co.length + (lf ++ bodyL (List.replicate mi 138) (15 + co.length + lf.length) (-1) (rs.map PR.p)).length := by
  unfold fullL
  rw [List.length_append, hhl, List.length_append]; lia
 have hle : (fullL (putB a 4 ++ (putB b 4 ++ putB c 4)) ((co.length : Int) :: co) lf (List.replicate mi 138) (rs.map PR.p)).length <= 10000000 := by
  rw [ho] at hlen
  unfold fileL at hlen
  rw [List.length_append] at hlen
  lia
 rw [hfl, List.length_append] at hle
 have e4 : ∀ v : Int, 0 < v -> v < 2147483648 -> seV 4 (putB v 4) = v := fun v h0 h1 => seV_put4 (by lia) h1
 have hbody := hd.body (pos := 15 + co.length) (last := -1) (pgs := []) (deep := 0) nd hAl (hr.body mi (15 + co.length + lf.length) (-1) [] 0 (by lia) (by lia) (by lia) (by simp; lia))
 have hlast : lastL (List.replicate mi 138) (15 + co.length + lf.length) (-1) (rs.map PR.p) < 2147483648 /\ -2147483648 <= lastL (List.replicate mi 138) (15 + co.length + lf.length) (-1) (rs.map PR.p) := by
  have key : ∀ (ps : List (List Int × List Int)) (pos : Nat) (last : Int), -1 <= last -> last < 2147483648 -> pos + (bodyL (List.replicate mi 138) pos last ps).length <= 100000000 -> lastL (List.replicate mi 138) pos last ps < 2147483648 /\ -2147483648 <= lastL (List.replicate mi 138) pos last ps := by
   intro ps
   induction ps with
   | nil => intro pos last h1 h2 h3; show last < _ /\ _ <= last; lia
   | cons p ps ih =>
    intro pos last h1 h2 h3
    simp only [lastL_c, bodyL_c, List.length_append] at h3 ⊢
    exact ih _ _ (by lia) (by lia) (by lia)
  exact key _ _ _ (by lia) (by lia) (by lia)
 have hpo := PostOK.mk (u1 := putB a 4) (u2 := putB b 4) (u3 := putB c 4) (kv := kv) (np := rs.length) (deep := rs.foldl (fun d r => max d r.dq) 0) (last := lastL (List.replicate mi 138) (15 + co.length + lf.length) (-1) (rs.map PR.p)) (pe := 15 + co.length + (lf ++ bodyL (List.replicate mi 138) (15 + co.length + lf.length) (-1) (rs.map PR.p)).length)
  (t := T2) (bl := putB (lastL (List.replicate mi 138) (15 + co.length + lf.length) (-1) (rs.map PR.p)) 4) (tb := putB t 4) (wb := putB w 4) (sb := putB st 2) (nb := putB rs.length 2) (pf := List.replicate mi 138 ++ ld) (eb := putB ((15 + co.length + (lf ++ bodyL (List.replicate mi 138) (15 + co.length + lf.length) (-1) (rs.map PR.p)).length : Nat) : Int) 4) (m := m)
  (putB_len _ _) (putB_len _ _) (putB_len _ _) (putB_len _ _) (putB_len _ _) (putB_len _ _) hm (seV_put4 (by lia) (by lia)) (by rw [beV_put hst.2.1 (by have := pow256; lia)]; exact hst.1) (by rw [beV_put (by lia) (by have := pow256; lia)]; lia) (beV_put (by lia) (by have := pow256; rw [List.length_append]; lia)) hp hl
 rw [far4 ht, far4 hw] at hpo
 have := Told.mk (B := B) (cb := byteArr co) (u1 := putB a 4) (u2 := putB b 4) (u3 := putB c 4) (cl := (co.length : Int)) (putB_len _ _) (putB_len _ _) (putB_len _ _) ⟨by rw [e4 a ha.1 ha.2]; exact ha.1, by rw [e4 b hb.1 hb.2]; exact hb.1, by rw [e4 c hc.1 hc.2]; exact hc.1⟩ (by rw [hcs]) (by rw [hcs]; exact hbody)
  (by rw [hcs, List.nil_append, List.length_map]; exact hpo) ?_ (by simp; lia) hkv hB
 ·unfold unW at this
  rw [e4 a ha.1 ha.2, e4 b hb.1 hb.2, e4 c hc.1 hc.2, List.nil_append] at this
  exact this
 ·rw [ho, octs_byteArr hco]
  unfold fileL
  rw [hhl, hfl]
  unfold fullL headL
  rw [List.length_map]
  have hhl' := hhl
  unfold headL at hhl'
  simp only [hhl']
  simp only [List.append_assoc, List.cons_append, List.nil_append]
end
section
inductive Chain : List TEnt -> List (Int × W) -> List (Int × W) -> List Int -> List (PgS × List Int) -> List TEnt -> List (Int × W) -> List (Int × W) -> List Int -> Prop
 | nil {T P A b1} : Chain T P A b1 [] T P A b1
 | cons {T P A b1 s cs T1 A1 D4 D5 b11 rest T' P' A' b1'} (d : PDone (trows T) P s T1 A1 D4 D5 b11) (hc : csOK cs) (h : Chain T1 (P ++ D5) A1 b11 rest T' P' A' b1') : Chain T P A b1 ((s, cs) :: rest) T' P' A' b1'
theorem Chain.snoc {T P A b1 ps T1 P1 A1 b11 s cs T2 A2 D4 D5 b12} (h : Chain T P A b1 ps T1 P1 A1 b11) (d : PDone (trows T1) P1 s T2 A2 D4 D5 b12) (hc : csOK cs) : Chain T P A b1 (ps ++ [(s, cs)]) T2 (P1 ++ D5) A2 b12 := by
 induction h with
 | nil => exact .cons d hc .nil
 | cons d' hc' h' ih => exact .cons d' hc' (ih d)
structure Gt (T : List TEnt) (P A : List (Int × W)) (b1 : List Int) : Prop where
 pm : (A ++ P).Perm (trows T)
 df : Defs b1 A
 nd : (T.map (·.nr)).Nodup
 ok : ∀ t ∈ T, TOk t
theorem PDone.gd {T P s T1 A1 D4 D5 b11} (d : PDone (trows T) P s T1 A1 D4 D5 b11) : Gt T1 (P ++ D5) A1 b11 := ⟨d.pm, d.df, d.nd, d.ok⟩
theorem trows_keys (T : List TEnt) : (trows T).map (·.1) = T.map (·.nr) := by simp [trows]
theorem Gt.keys {T P A b1} (g : Gt T P A b1) : ((A ++ P).map (·.1)).Nodup := by
 have := (g.pm.map (·.1)).nodup_iff.mpr (by rw [trows_keys]; exact g.nd)
 exact this
theorem Chain.gd {T P A b1 ps T' P' A' b1'} (h : Chain T P A b1 ps T' P' A' b1') (g : Gt T P A b1) : Gt T' P' A' b1' := by
 induction h with
 | nil => exact g
 | cons d hc h ih => exact ih d.gd
theorem PDone.mono {T P A b1 s T1 A1 D4 D5 b11} (g : Gt T P A b1) (d : PDone (trows T) P s T1 A1 D4 D5 b11) : ∀ x ∈ A, x ∈ A1 := by
 intro x hx
 have h1 : x ∈ trows T := g.pm.mem_iff.mp (List.mem_append_left _ hx)
 have h2 : x ∈ trows T1 := by rw [d.kT]; exact List.mem_append_left _ h1
 have h3 := d.pm.mem_iff.mpr h2
 rcases List.mem_append.mp h3 with h3 | h3
 ·exact h3
 exfalso
 rcases List.mem_append.mp h3 with h3 | h3
 ·have k := g.keys
  rw [List.map_append, List.nodup_append] at k
  exact k.2.2 x.1 (List.mem_map_of_mem (f := (·.1)) hx) x.1 (List.mem_map_of_mem (f := (·.1)) h3) rfl
 ·have k := d.dn x h3
  exact lk_none_not (v := x.2) k h1
theorem Chain.mono {T P A b1 ps T' P' A' b1'} (h : Chain T P A b1 ps T' P' A' b1') (g : Gt T P A b1) : ∀ x ∈ A, x ∈ A' := by
 induction h with
 | nil => exact fun x hx => hx
 | cons d hc h ih => exact fun x hx => ih d.gd x (d.mono g x hx)
theorem Chain.pre {T P A b1 ps T' P' A' b1'} (h : Chain T P A b1 ps T' P' A' b1') : ∃ P2, P' = P ++ P2 := by
 induction h with
 | nil => exact ⟨[], by simp⟩
 | cons d hc h ih => obtain ⟨P2, e⟩ := ih; exact ⟨_, by rw [e, List.append_assoc]⟩
noncomputable abbrev r4 (p : PgS × List Int) : PR := ⟨p.2, p.1.b4, p.1.rows, p.1.d4⟩
noncomputable abbrev r5 (p : PgS × List Int) : PR := ⟨p.2, p.1.b5, p.1.rows, p.1.d5⟩
theorem Chain.run4 {T P A b1 ps T' P' A' b1'} (h : Chain T P A b1 ps T' P' A' b1') : Run (trows T) (ps.map r4) (trows T') := by
 induction h with
 | nil => exact .nil
 | cons d hc h ih =>
  rw [d.kT] at ih
  exact .cons hc d.r4 (Nat.le_trans d.rl (by lia)) ih
theorem nodup_disj {l m : List (Int × W)} {k : Int} {v : W} (nd : ((l ++ m).map (·.1)).Nodup) (h : (k, v) ∈ m) : lkG l k = none := by
 rw [List.map_append, List.nodup_append] at nd
 cases z : lkG l k with
 | none => rfl
 | some w => exact absurd rfl (nd.2.2 k (List.mem_map_of_mem (f := (·.1)) (lk_mem z)) k (List.mem_map_of_mem (f := (·.1)) h))
theorem Chain.run5 {T P A b1 ps T' P' A' b1'} (h : Chain T P A b1 ps T' P' A' b1') (g : Gt T P A b1) (hl : A'.length <= 100) (hlP : P'.length <= 100) : Run (A' ++ P) (ps.map r5) (A' ++ P') := by
 induction h with
 | nil => exact .nil
 | @cons T P A b1 s cs T1 A1 D4 D5 b11 rest T' P' A' b1' d hc h ih =>
  have g1 := d.gd
  have g' := h.gd g1
  have mono := h.mono g1
  obtain ⟨P2, eP⟩ := h.pre
  have ih' := ih g1 hl hlP
  rw [<- List.append_assoc] at ih'
  refine .cons hc ?_ (Nat.le_trans d.rl (by lia)) ih'
  refine d.r5 (A' ++ P) (fun t ht hn => ?_) (fun t ht hn => ?_) (by
   have := congrArg List.length eP
   rw [List.length_append, List.length_append] at this
   rw [List.length_append]; lia)
  ·have hm : (t.nr, t.row) ∈ trows T1 := List.mem_map_of_mem (f := fun t => (t.nr, t.row)) ht
   have hm := d.pm.mem_iff.mpr hm
   rcases List.mem_append.mp hm with hm | hm
   ·exact lk_of_mem (List.mem_append_left _ (mono _ hm))
   ·rcases List.mem_append.mp hm with hm | hm
    ·exact lk_of_mem (List.mem_append_right _ hm)
    ·exact absurd hm (lk_none_not hn)
  ·cases z : lkG D5 t.nr with
   | none => exact absurd z hn
   | some v =>
    have hm := lk_mem z
    have nd := g'.keys
    rw [eP] at nd
    have e : A' ++ (P ++ D5 ++ P2) = (A' ++ P) ++ (D5 ++ P2) := by simp
    rw [e] at nd
    exact nodup_disj nd (List.mem_append_left _ hm)
noncomputable def ldL (L : List (TEnt × Nat)) : List Int := (L.map fun p => (242 + (p.2 : Int)) :: (putB p.1.nr p.2 ++ p.1.rest)).flatten
theorem post_nops {kv t t' bs} (m : Nat) (h : Post kv t bs t') : Post kv t (List.replicate m 138 ++ bs) t' := by
 induction m with
 | zero => exact h
 | succ m ih => exact .nop ih
theorem post_ld {kv : List (Int × W)} {L : List (TEnt × Nat)} : ∀ {t : List (Int × W)}, (∀ p ∈ L, TOk p.1 /\ 1 <= p.2 /\ p.2 <= 4 /\ lkG kv p.1.nr = some p.1.row) -> (t.map (·.1) ++ L.map (fun p => p.1.nr)).Nodup -> Post kv t (ldL L) (t ++ L.map fun p => (p.1.nr, p.1.row)) := by
 induction L with
 | nil => exact fun {t} O O => by simpa [ldL] using Post.nil
 | cons p L ih =>
  intro t h nd
  obtain ⟨ok, h1, h4, hk⟩ := h p (by simp)
  have hn : lkG t p.1.nr = none := by
   cases z : lkG t p.1.nr with
   | none => rfl
   | some v =>
    rw [List.nodup_append] at nd
    exact absurd rfl (nd.2.2 p.1.nr (List.mem_map_of_mem (f := (·.1)) (lk_mem z)) p.1.nr (by simp))
  have ih := ih (t := t ++ [(p.1.nr, p.1.row)]) (fun q hq => h q (by simp [hq])) (by simpa using nd)
  have := Post.fdef (kv := kv) (ok.r p.2 h1 h4) hn hk ih
  have e : ldL (p :: L) = (242 + (p.2 : Int)) :: (putB p.1.nr p.2 ++ p.1.rest ++ ldL L) := by simp [ldL]
  rw [e]
  simpa using this
theorem lk_nodup {l : List (Int × W)} {k : Int} {v : W} (nd : (l.map (·.1)).Nodup) (h : (k, v) ∈ l) : lkG l k = some v := by
 induction l with
 | nil => cases h
 | cons p r ih =>
  simp only [lk_cons]
  rw [List.map_cons, List.nodup_cons] at nd
  rcases List.mem_cons.mp h with rfl | h
  ·rw [if_pos rfl]
  ·rw [if_neg (fun (e : p.1 = k) => nd.1 (by rw [e]; exact List.mem_map_of_mem (f := (·.1)) h))]
   exact ih nd.2 h
theorem Gt.lk4 {T P A b1} (g : Gt T P A b1) {t : TEnt} (ht : t ∈ T) : lkG (trows T) t.nr = some t.row :=
 lk_nodup (by rw [trows_keys]; exact g.nd) (List.mem_map_of_mem (f := fun t => (t.nr, t.row)) ht)
theorem Gt.lk5 {T P A b1} (g : Gt T P A b1) {t : TEnt} (ht : t ∈ T) : lkG (A ++ P) t.nr = some t.row :=
 lk_nodup g.keys (g.pm.mem_iff.mpr (List.mem_map_of_mem (f := fun t => (t.nr, t.row)) ht))
theorem Gt.small {T P A b1} (g : Gt T P A b1) : A.length <= 2 /\ P.length <= 2 /\ A.length + P.length = T.length /\ T.length <= 2 := by
 have h1 := g.pm.length_eq
 rw [List.length_append, List.length_map] at h1
 have := short g.nd g.ok
 lia
end
section
theorem cnt_oct (cs : List Int) : ∀ i ∈ cntL cs, 0 <= i /\ i < 256 := by
 intro i hi
 unfold cntL at hi
 obtain ⟨l, hl, hi⟩ := List.mem_flatten.mp hi
 obtain ⟨c, _, rfl⟩ := List.mem_map.mp hl
 exact putB_oct _ _ i hi
theorem body_oct {li : List Int} (hli : ∀ i ∈ li, 0 <= i /\ i < 256) (ps : List (List Int × List Int)) : ∀ (pos : Nat) (last : Int), (∀ p ∈ ps, ∀ i ∈ p.2, 0 <= i /\ i < 256) -> ∀ i ∈ bodyL li pos last ps, 0 <= i /\ i < 256 := by
 induction ps with
 | nil => exact fun O O O i h => (nil_no h)
 | cons p ps ih => exact fun pos last h => oct_app (oct_cons (by lia) (oct_app (cnt_oct _) (oct_app (putB_oct _ _) (oct_app (h p (.head _)) (oct_cons (by lia) hli))))) (ih _ _ fun q hq => h q (.tail _ hq))
theorem body_len {li : List Int} (hli : li.length <= 100) (ps : List (List Int × List Int)) : ∀ (pos : Nat) (last : Int), (∀ p ∈ ps, p.1.length = 10 /\ p.2.length <= 4000) -> (bodyL li pos last ps).length <= 5000 * ps.length := by
 induction ps with
 | nil => exact fun O O O => Nat.le_refl 0
 | cons p ps ih =>
  intro pos last h
  have ih := ih (pos + (pageL li last p).length) pos fun q hq => h q (.tail _ hq)
  obtain ⟨h1, h2⟩ := h p (.head _)
  rw [bodyL_c, List.length_append, List.length_cons]
  have hpl := page_len li last p
  lia
theorem file_oct {l0 l1 l2 lf li ld : List Int} {ps : List (List Int × List Int)} {st : Int} {m : Nat} (h0 : ∀ i ∈ l0, 0 <= i /\ i < 256) (h1 : ∀ i ∈ l1, 0 <= i /\ i < 256) (h2 : ∀ i ∈ l2, 0 <= i /\ i < 256) (hf : ∀ i ∈ lf, 0 <= i /\ i < 256) (hi : ∀ i ∈ li, 0 <= i /\ i < 256) (hd : ∀ i ∈ ld, 0 <= i /\ i < 256) (hp : ∀ p ∈ ps, ∀ i ∈ p.2, 0 <= i /\ i < 256) :
  ∀ i ∈ fileL l0 l1 l2 lf li ld ps st m, 0 <= i /\ i < 256 := by
 dsimp only [fileL, fullL, headL]
 have hr : ∀ i ∈ List.replicate m (223 : Int), 0 <= i /\ i < 256 := fun i hi => by rw [List.eq_of_mem_replicate hi]; lia
 exact oct_app (oct_app (oct_app (oct_cons (by lia) (oct_cons (by lia) oct_nil)) (oct_app h0 (oct_app h1 hf))) (body_oct hi _ _ _ hp))
  (oct_app (oct_cons (by lia) oct_nil) (oct_app (putB_oct _ _) (oct_app h0 (oct_app h2 (oct_app (putB_oct _ _) (oct_app (putB_oct _ _) (oct_app hi (oct_app hd (oct_app (oct_cons (by lia) oct_nil) (oct_app (putB_oct _ _) (oct_app (oct_cons (by lia) oct_nil) hr)))))))))))
theorem file_len {l0 l1 l2 lf li ld : List Int} {ps : List (List Int × List Int)} {st : Int} {m : Nat} (h0 : l0.length <= 100) (h1 : l1.length <= 100) (h2 : l2.length <= 100) (hf : lf.length <= 1000) (hi : li.length <= 100) (hd : ld.length <= 1000) (hp : ∀ p ∈ ps, p.1.length = 10 /\ p.2.length <= 4000) (hl : ps.length <= 3) (hm : m <= 1000) :
  (fileL l0 l1 l2 lf li ld ps st m).length <= 10000000 := by
 have := body_len hi ps (headL l0 l1 lf).length (-1) hp
 dsimp only [fileL, fullL]
 simp only [List.length_append, putB_len, List.length_replicate, List.length_cons, List.length_nil]
 have hh : (headL l0 l1 lf).length = 2 + (l0.length + (l1.length + lf.length)) := by simp [headL]; lia
 lia
structure PgF (p : PgS × List Int) : Prop where
 cs : csOK p.2
 l4 : p.1.b4.length <= 4000 /\ ∀ i ∈ p.1.b4, 0 <= i /\ i < 256
 l5 : p.1.b5.length <= 4000 /\ ∀ i ∈ p.1.b5, 0 <= i /\ i < 256
 rl : p.1.rows.length <= 100
 fl : p.1.rows.all (W.pl 1) = true
 d4 : 0 <= p.1.d4 /\ p.1.d4 <= 60
 d5 : 0 <= p.1.d5 /\ p.1.d5 <= 60
theorem Chain.pgf {T P A b1 ps T' P' A' b1'} (h : Chain T P A b1 ps T' P' A' b1') : ∀ p ∈ ps, PgF p := by
 induction h with
 | nil => intro p hp; cases hp
 | cons d hc h ih =>
  intro p hp
  rcases List.mem_cons.mp hp with rfl | hp
  ·exact ⟨hc, d.l4, d.l5, d.rl, d.fl, d.d4, d.d5⟩
  ·exact ih p hp
theorem foldmax {α : Type} (f : α -> Int) (l : List α) : ∀ (d M : Int), M ∈ d :: l.map f -> (∀ x ∈ d :: l.map f, x <= M) -> l.foldl (fun d r => max d (f r)) d = M := by
 induction l with
 | nil => exact fun d M h O => (List.mem_singleton.mp h).symm
 | cons a l ih =>
  intro d M h hu
  have h1 := hu d (.head _)
  have h2 := hu (f a) (.tail _ (.head _))
  refine ih _ M ?_ ?_
  ·exact (List.mem_cons.mp h).elim (fun e => List.mem_cons.mpr (.inl (by lia))) fun h => (List.mem_cons.mp h).elim (fun e => List.mem_cons.mpr (.inl (by lia))) fun h => .tail _ h
  ·exact fun x hx => (List.mem_cons.mp hx).elim (fun e => by lia) fun hx => hu x (.tail _ (.tail _ hx))
theorem Defs.oct {b : List Int} {A : List (Int × W)} (h : Defs b A) : ∀ i ∈ b, 0 <= i /\ i < 256 := by
 induction h with
 | nil => exact fun i h => nil_no h
 | snoc h hd hl ho ih => have := hd.k4; exact oct_app ih (oct_cons (by lia) ho)
noncomputable abbrev Pg.p (q : Pg) : PgS × List Int := (q.s, q.cs)
theorem r4_fI (R : List Pg) : ((R.map Pg.p).map r4).map PR.p = R.map (Pg.f 4) := by
 rw [List.map_map, List.map_map]; rfl
theorem r5_fI (R : List Pg) : ((R.map Pg.p).map r5).map PR.p = R.map (Pg.f 5) := by
 rw [List.map_map, List.map_map]; rfl
theorem r4_v (ps : List (PgS × List Int)) : (ps.map r4).map PR.v = ps.map fun p => .tup [.tup (p.2.map W.int), .tup p.1.rows] := by
 rw [List.map_map]; rfl
theorem r5_v (ps : List (PgS × List Int)) : (ps.map r5).map PR.v = ps.map fun p => .tup [.tup (p.2.map W.int), .tup p.1.rows] := by
 rw [List.map_map]; rfl
theorem ldL_len' {L : List (TEnt × Nat)} (h : ∀ p ∈ L, TOk p.1 /\ 1 <= p.2 /\ p.2 <= 4) : (ldL L).length <= 50 * L.length /\ ∀ i ∈ ldL L, 0 <= i /\ i < 256 := by
 induction L with
 | nil => simp [ldL]
 | cons p L ih =>
  obtain ⟨t, m⟩ := p
  obtain ⟨ok, h1, h4⟩ := h (t, m) (by simp)
  obtain ⟨a, b⟩ := ih fun q hq => h q (by simp [hq])
  dsimp only at ok h1 h4
  have := ok.l
  have e : ldL ((t, m) :: L) = ((242 + (m : Int)) :: (putB t.nr m ++ t.rest)) ++ ldL L := by simp [ldL]
  rw [e]
  exact ⟨by simp [putB_len]; lia, oct_app (oct_cons (by lia) (oct_app (putB_oct _ _) ok.o)) b⟩
section
variable {a b c t w : Int} {cl : List Int} {T : List TEnt}
theorem told_gen {rs : List PR} {Af kv : List (Int × W)} {lf : List Int} {L : List (TEnt × Nat)} {mi m : Nat} {M st : Int} (ha : 0 < a /\ a < 2147483648) (hb : 0 < b /\ b < 2147483648) (hc : 0 < c /\ c < 2147483648) (ht : far t) (hw : far w) (hco : ∀ i ∈ cl, 0 <= i /\ i < 256) (hcl : cl.length <= 3)
  (hd : Defs lf Af) (nd : (Af.map (·.1)).Nodup) (hAl : Af.length <= 2) (hr : Run Af rs kv) (hkv : kv.length = T.length) (hlk : ∀ t ∈ T, lkG kv t.nr = some t.row) (hL : (L.map (·.1)).Perm T) (hLm : ∀ p ∈ L, 1 <= p.2 /\ p.2 <= 4) (ok : ∀ t ∈ T, TOk t) (ndT : (T.map (·.nr)).Nodup) (hT : T.length <= 2) (hmi : mi <= 3)
  (hM : M ∈ (0 : Int) :: rs.map (·.dq)) (hu : ∀ x ∈ (0 : Int) :: rs.map (·.dq), x <= M) (hst : M <= st /\ st < 65536) (hrl : rs.length <= 3) (hp : ∀ r ∈ rs, r.cs.length = 10 /\ r.b.length <= 4000 /\ ∀ i ∈ r.b, 0 <= i /\ i < 256) (hm : 4 <= m) (hm2 : m <= 1000) :
  (∀ i ∈ fileL (putB a 4 ++ (putB b 4 ++ putB c 4)) ((cl.length : Int) :: cl) (putB t 4 ++ putB w 4) lf (List.replicate mi 138) (ldL L) (rs.map PR.p) st m, 0 <= i /\ i < 256) /\
   Told (byteArr (fileL (putB a 4 ++ (putB b 4 ++ putB c 4)) ((cl.length : Int) :: cl) (putB t 4 ++ putB w 4) lf (List.replicate mi 138) (ldL L) (rs.map PR.p) st m)) (.tup [.int a, .int b, .int c]) (.bytes (byteArr cl)) (rs.map PR.v) kv t w M := by
 have hfold : rs.foldl (fun d r => max d r.dq) 0 = M := foldmax (·.dq) rs 0 M hM hu
 have h0 := hu 0 (by simp)
 have hLt : ∀ p ∈ L, p.1 ∈ T := fun p hp => hL.mem_iff.mp (List.mem_map_of_mem (f := (·.1)) hp)
 have hLl : L.length <= 2 := by have := hL.length_eq; rw [List.length_map] at this; lia
 obtain ⟨l1, l2⟩ := ldL_len' (L := L) fun p hp => ⟨ok _ (hLt p hp), hLm p hp⟩
 have d1 := hd.len
 have d2 := hd.oct
 have hr138 : ∀ i ∈ List.replicate mi (138 : Int), 0 <= i /\ i < 256 := fun i hi => by rw [List.eq_of_mem_replicate hi]; lia
 have hpp : ∀ p ∈ rs.map PR.p, p.1.length = 10 /\ p.2.length <= 4000 /\ ∀ i ∈ p.2, 0 <= i /\ i < 256 := by
  intro p hp'
  obtain ⟨r, hr', rfl⟩ := List.mem_map.mp hp'
  exact hp r hr'
 have ho := file_oct (l0 := putB a 4 ++ (putB b 4 ++ putB c 4)) (l1 := (cl.length : Int) :: cl) (l2 := putB t 4 ++ putB w 4) (lf := lf) (li := List.replicate mi 138) (ld := ldL L) (ps := rs.map PR.p) (st := st) (m := m) (oct_app (putB_oct _ _) (oct_app (putB_oct _ _) (putB_oct _ _))) (oct_cons (by lia) hco) (oct_app (putB_oct _ _) (putB_oct _ _)) d2 hr138 l2 fun p hp => (hpp p hp).2.2
 have hl := file_len (l0 := putB a 4 ++ (putB b 4 ++ putB c 4)) (l1 := (cl.length : Int) :: cl) (l2 := putB t 4 ++ putB w 4) (lf := lf) (li := List.replicate mi 138) (ld := ldL L) (ps := rs.map PR.p) (st := st) (m := m) (by simp [putB_len]) (by simp; lia) (by simp [putB_len]) (by lia) (by simp; lia) (by lia) (fun p hp => ⟨(hpp p hp).1, (hpp p hp).2.1⟩) (by simpa using hrl) hm2
 refine ⟨ho, ?_⟩
 rw [<- hfold] at hst h0 ⊢
 have ndL : (L.map fun p => p.1.nr).Nodup := by
  have := (hL.map (·.nr)).nodup_iff.mpr ndT
  rwa [List.map_map] at this
 have hpo := post_ld (kv := kv) (L := L) (t := []) (fun p hp => ⟨ok _ (hLt p hp), (hLm p hp).1, (hLm p hp).2, hlk _ (hLt p hp)⟩) (by simpa using ndL)
 refine told_of ha hb hc ht hw hco (by lia) (by lia) hd nd (by lia) hr (post_nops mi hpo) ?_ ⟨hst.1, by lia, hst.2⟩ hm (by lia) (octs_byteArr ho) (by rw [byteArr_size]; exact hl)
 have := hL.length_eq
 rw [List.length_map] at this
 simp only [List.nil_append, List.length_map]; lia
theorem told_one {R : List Pg} {P Ad : List (Int × W)} {b1 : List Int} {S : List TEnt} {m : Nat} {M : Int} (ha : 0 < a /\ a < 2147483648) (hb : 0 < b /\ b < 2147483648) (hc : 0 < c /\ c < 2147483648) (ht : far t) (hw : far w) (hco : ∀ i ∈ cl, 0 <= i /\ i < 256) (hcl : cl.length <= 3)
  (h : Chain [] [] [] [] (R.map Pg.p) T P Ad b1) (hST : S.Perm T) (hM : M ∈ (0 : Int) :: R.map (·.s.d4)) (hu : ∀ x ∈ (0 : Int) :: R.map (·.s.d4), x <= M) (hrl : R.length <= 3) (hm : 4 <= m) (hm2 : m <= 1000) :
  (∀ i ∈ fileL (putB a 4 ++ (putB b 4 ++ putB c 4)) ((cl.length : Int) :: cl) (putB t 4 ++ putB w 4) [] [] (ldL (S.map fun t => (t, 1))) (R.map (Pg.f 4)) M m, 0 <= i /\ i < 256) /\
   Told (byteArr (fileL (putB a 4 ++ (putB b 4 ++ putB c 4)) ((cl.length : Int) :: cl) (putB t 4 ++ putB w 4) [] [] (ldL (S.map fun t => (t, 1))) (R.map (Pg.f 4)) M m)) (.tup [.int a, .int b, .int c]) (.bytes (byteArr cl)) (R.map fun r => .tup [.tup (r.cs.map W.int), .tup r.s.rows]) (trows T) t w M := by
 have gd := h.gd ⟨by simp, .nil, by simp, by simp⟩
 have pf := h.pgf
 have hr4 : Run [] ((R.map Pg.p).map r4) (trows T) := h.run4
 have hMM : M <= 60 := by
  rcases List.mem_cons.mp hM with rfl | hM
  ·lia
  ·obtain ⟨r, hr, rfl⟩ := List.mem_map.mp hM
   exact (pf r.p (List.mem_map_of_mem (f := Pg.p) hr)).d4.2
 have := told_gen (a := a) (b := b) (c := c) (t := t) (w := w) (cl := cl) (T := T) (rs := (R.map Pg.p).map r4) (Af := []) (kv := trows T) (lf := []) (L := S.map fun t => (t, 1)) (mi := 0) (m := m) (M := M) (st := M) ha hb hc ht hw hco hcl .nil (by simp) (by simp) hr4 (by simp [trows]) (fun t ht => gd.lk4 ht) (by rw [List.map_map, show ((fun x : TEnt × Nat => x.1) ∘ fun t : TEnt => (t, 1)) = id from rfl, List.map_id]; exact hST) (by simp) gd.ok gd.nd gd.small.2.2.2 (by lia)
  (by rw [List.map_map, List.map_map]; exact hM) (by rw [List.map_map, List.map_map]; exact hu) ⟨by lia, by lia⟩ (by simpa using hrl) (fun r hr => by
   obtain ⟨p, hp, rfl⟩ := List.mem_map.mp hr
   have := pf p hp
   exact ⟨this.cs.1, this.l4⟩) hm hm2
 rw [r4_fI, r4_v, List.map_map] at this
 exact this
theorem told_two {R : List Pg} {P Ad : List (Int × W)} {b1 : List Int} {S : List TEnt} {L : List (TEnt × Nat)} {mi m : Nat} {M st : Int} (ha : 0 < a /\ a < 2147483648) (hb : 0 < b /\ b < 2147483648) (hc : 0 < c /\ c < 2147483648) (ht : far t) (hw : far w) (hco : ∀ i ∈ cl, 0 <= i /\ i < 256) (hcl : cl.length <= 3)
  (h : Chain [] [] [] [] (R.map Pg.p) T P Ad b1) (hST : S.Perm T) (hL : L.map (·.1) = S.reverse) (hLm : ∀ p ∈ L, 1 <= p.2 /\ p.2 <= 4) (hmi : mi <= 3) (hM : M ∈ (0 : Int) :: R.map (·.s.d5)) (hu : ∀ x ∈ (0 : Int) :: R.map (·.s.d5), x <= M) (hst : M <= st /\ st < 65536) (hrl : R.length <= 3) (hm : 4 <= m) (hm2 : m <= 1000) :
  (∀ i ∈ fileL (putB a 4 ++ (putB b 4 ++ putB c 4)) ((cl.length : Int) :: cl) (putB t 4 ++ putB w 4) b1 (List.replicate mi 138) (ldL L) (R.map (Pg.f 5)) st m, 0 <= i /\ i < 256) /\
   Told (byteArr (fileL (putB a 4 ++ (putB b 4 ++ putB c 4)) ((cl.length : Int) :: cl) (putB t 4 ++ putB w 4) b1 (List.replicate mi 138) (ldL L) (R.map (Pg.f 5)) st m)) (.tup [.int a, .int b, .int c]) (.bytes (byteArr cl)) (R.map fun r => .tup [.tup (r.cs.map W.int), .tup r.s.rows]) (Ad ++ P) t w M := by
 have g0 : Gt [] [] [] [] := ⟨by simp, .nil, by simp, by simp⟩
 have gd := h.gd g0
 have pf := h.pgf
 have sm := gd.small
 have ndA : (Ad.map (·.1)).Nodup := by
  have := gd.keys
  rw [List.map_append, List.nodup_append] at this
  exact this.1
 have hr := h.run5 g0 (by lia) (by lia)
 rw [List.append_nil] at hr
 have := told_gen (a := a) (b := b) (c := c) (t := t) (w := w) (cl := cl) (T := T) (rs := (R.map Pg.p).map r5) (Af := Ad) (kv := Ad ++ P) (lf := b1) (L := L) (mi := mi) (m := m) (M := M) (st := st) ha hb hc ht hw hco hcl gd.df ndA sm.1 hr (by rw [List.length_append]; lia) (fun t ht => gd.lk5 ht) (by rw [hL]; exact (List.reverse_perm S).trans hST) hLm gd.ok gd.nd sm.2.2.2 hmi
  (by rw [List.map_map, List.map_map]; exact hM) (by rw [List.map_map, List.map_map]; exact hu) hst (by simpa using hrl) (fun r hr => by
   obtain ⟨p, hp, rfl⟩ := List.mem_map.mp hr
   have := pf p hp
   exact ⟨this.cs.1, this.l5⟩) hm hm2
 rw [r5_fI, r5_v, List.map_map] at this
 exact this
end
end
section
theorem dictOf_any {prog prog' : Program} {w w' : World} {h : Heap} {a : Addr} {kvs : List (Int × Value)} (x : h.DictOf (intKind prog w) a kvs) : h.DictOf (intKind prog' w') a kvs := by
 refine cps fun G0 z0 => ?_
 obtain ⟨o, es, ep, h1, h2, h3, h4, h5, h6⟩ := x
 refine z0 ?_
 clear z0
 refine ⟨o, es, ep, h1, h2, h3, fun e he => ?_, ?_, h6⟩
 ·obtain ⟨k, a, b⟩ := h4 e he; exact ⟨k, a, b⟩
 ·clear h1 h2 h3 h4 h6
  generalize es.toList = l at h5
  induction h5 with
  | nil => exact .nil
  | cons a b _ ih => exact .cons a b ih
inductive EqV (H : Hp) : V -> V -> Prop
 | flat {v : V} (f : v.flat = true) (d : v.dep <= 100) : EqV H v v
 | list {a b : Addr} {vs : List V} (ea : H a = some (.list vs)) (eb : H b = some (.list vs)) (f : V.flats vs = true) (d : V.deps vs <= 100) : EqV H (.ref a) (.ref b)
 | dict {a b : Addr} {k1 k2 : List (Int × V)} {e1 e2 : Nat} (ea : H a = some (.dict k1 e1)) (eb : H b = some (.dict k2 e2)) (hl : k1.length = k2.length) (hh : ∀ p ∈ k1, lk k2 p.1 = some p.2 /\ p.2.flat = true /\ p.2.dep <= 100) : EqV H (.ref a) (.ref b)
theorem hits_of {X : Wd} {A : Around} {s : Shared} {k2 : List (Int × V)} {es2 : List (Int × Value)} (r2 : VPs s.heap k2 es2) (hu : A.units + 200 < cLine) {k1 : List (Int × V)} : ∀ {es1 : List (Int × Value)}, VPs s.heap k1 es1 -> (∀ p ∈ k1, lk k2 p.1 = some p.2 /\ p.2.flat = true /\ p.2.dep <= 100) -> KeqHits A s es2 es1 true := by
 have u : A.units + 100 < cLine := by lia
 induction k1 with
 | nil => exact fun {es1} r O => (show _ = _ from r) ▸ .nil
 | cons p k1 ih =>
  refine fun {es1} q hh => q.elim fun x q => q.elim fun r q => q.1 ▸ ?_
  have h := hh p (.head _)
  exact (r2.at h.1).elim fun y z => KeqHits.hit (K := Int) (A := A) (s := s) (v := x) (b := true) z.1 (eqT_flat 100 p.2 h.2.1 h.2.2 u q.2.1 z.2) (ih q.2.2 fun q hq => hh q (.tail _ hq))
theorem eqV_at {X : Wd} {P : Pin} {H : Hp} {s : Shared} {A : Around} (S : St X P H s) {v w : V} (e : EqV H v w) {x y : Value} (rx : VR s.heap v x) (ry : VR s.heap w y) (hu : A.units + 300 < cLine) : SeqAt.EqAt A s x y true := by
 cases e with
 | flat f d => exact eqT_flat 100 v f d (by lia) rx ry
 | @list a b vs ea eb f d =>
  rw [show x = _ from rx, show y = _ from ry]
  by_cases hab : a = b
  ·subst hab; exact SeqAt.EqAt.same _
  ·obtain ⟨xs, m, ho, rs⟩ := (S.cell _ _ ea).2
   obtain ⟨ys, m', ho', rs'⟩ := (S.cell _ _ eb).2
   have := SeqAt.RcAt.lists (A := A) (e := fun O => true) ⟨_, ho, rfl, m, rfl⟩ ⟨_, ho', rfl, m', rfl⟩ (by simp [rs.length, rs'.length]) (by lia) (eqT_items rs rs' (A := A.in1) fun i v u w e r1 r2 => eqT_flat 100 v (flats_at f e) (Nat.le_trans (deps_at e) d) (by show A.units + 1 + 100 < cLine; lia) r1 r2)
   rw [all_true] at this
   exact SeqAt.EqAt.of_refs hab this
 | @dict a b k1 k2 e1 e2 ea eb hl hh =>
  rw [show x = _ from rx, show y = _ from ry]
  by_cases hab : a = b
  ·subst hab; exact SeqAt.EqAt.same _
  ·obtain ⟨es1, ho1, r1⟩ := (S.cell _ _ ea).2
   obtain ⟨es2, ho2, r2⟩ := (S.cell _ _ eb).2
   refine SeqAt.EqAt.of_refs hab fun prog w E Q h => ?_
   have hlen : es1.length = es2.length := by simp only [r1.len, r2.len, hl]
   have d1 : s.heap.DictOf (intKind prog w) a es1 := dictOf_any ho1.dictOf
   have d2 : s.heap.DictOf (intKind prog w) b es2 := dictOf_any ho2.dictOf
   have hits := hits_of (X := X) (A := A.in1) r2 (by show A.units + 1 + 200 < cLine; lia) r1 hh
   refine keq_eq (knd := intKind prog w) (r := true) (S.notSys ea) (S.notSys eb) d1 d2 (by lia) (fun O => hits) ?_
   rw [hlen, beq_self_eq_true]
   exact h
inductive EqVs (H : Hp) : List V -> List V -> Prop
 | nil : EqVs H [] []
 | cons {v w r q} (e : EqV H v w) (t : EqVs H r q) : EqVs H (v :: r) (w :: q)
theorem EqVs.len {H : Hp} {vs ws : List V} (h : EqVs H vs ws) : vs.length = ws.length := by
 induction h with
 | nil => rfl
 | cons _ _ ih => exact congrArg (· + 1) ih
theorem EqVs.at {H : Hp} {vs ws : List V} (h : EqVs H vs ws) : ∀ {i : Nat} {v w : V}, vs[i]? = some v -> ws[i]? = some w -> EqV H v w := by
 induction h with
 | nil => exact fun h => none_no (List.getElem?_nil.symm.trans h)
 | cons e t ih =>
  intro i v w h1 h2
  induction i with
  | zero => exact Option.some.inj h1 ▸ Option.some.inj h2 ▸ e
  | succ i => exact ih h1 h2
section
variable {X : Wd} {n : Nat} {H : Hp} {Q : V -> Hp -> Prop}
theorem cmp_eqVs {vs ws : List V} (e : EqVs H vs ws) (h : Q (.bool true) H) : WCmp X n .Eq (.tup vs) (.tup ws) H Q := fun A P s va vb r S q0 q1 => q0.onTup fun a xs m ea ho rs => q1.onTup fun b ys m' eb ho' rs' => by
 subst ea eb
 refine SeqAt.eq_tupleAt (e := fun O => true) ⟨_, ho, rfl, m, rfl⟩ ⟨_, ho', rfl, m', rfl⟩ (r.cl (k := 0) (by lia)) (fun j h1 h2 => ?_) ?_
 ·have h1' : j < xs.length := h1
  have h2' : j < ys.length := h2
  refine cps fun G0 z0 => ?_
  obtain ⟨v, e1, r1⟩ := rs.get' (i := j) (x := xs[j]) (List.getElem?_eq_getElem h1')
  obtain ⟨w, e2, r2⟩ := rs'.get' (i := j) (x := ys[j]) (List.getElem?_eq_getElem h2')
  refine z0 ?_
  clear z0
  exact eqV_at S (e.at e1 e2) r1 r2 (by have := r.cl (k := 400) (by lia); show A.units + 1 + 300 < cLine; lia)
 ·rw [all_true, Bool.true_and, show (xs.toArray.size == ys.toArray.size) = true by simp [rs.length, rs'.length, e.len]]
  exact .mk S vr_bool (Grow.refl _) h
end
inductive EqW (l : Hl) : W -> W -> Prop
 | pl {w : W} (h : w.pl 100 = true) : EqW l w w
 | list {n : Nat} {a : Addr} {ws : List W} (e : l.at n = some (a, .list ws)) (h : (W.tup ws).pl 101 = true) : EqW l (.ref a) (.lst ws)
 | dict {n m : Nat} {a b : Addr} {k1 k2 : List (Int × W)} (e1 : l.at n = some (a, .dict k1)) (e2 : l.at m = some (b, .dict k2)) (hl : k1.length = k2.length) (hh : ∀ p ∈ k1, lkG k2 p.1 = some p.2 /\ p.2.pl 100 = true) : EqW l (.ref a) (.ref b)
theorem RK.mem' {F : Fz} {l : List (Int × W)} : ∀ {l' : List (Int × V)}, RK F id l l' -> ∀ p ∈ l', ∃ q ∈ l, p.1 = q.1 /\ RV F q.2 p.2 := by
 induction l with
 | nil => exact fun {l'} h p hp => by rw [show l' = [] from h] at hp; exact (nil_no hp)
 | cons q l ih =>
  exact fun {l'} z => z.elim fun v z => z.elim fun r z => z.1 ▸ fun p hp => (List.mem_cons.mp hp).elim (fun e => ⟨q, .head _, e ▸ rfl, e ▸ z.2.1⟩) fun hp => (ih z.2.2 p hp).elim fun w h => ⟨w, .tail _ h.1, h.2⟩
theorem eqW_V {F : Fz} {l : Hl} {H : Hp} (rh : RH F l H) {w1 w2 : W} {v1 v2 : V} (e : EqW l w1 w2) (r1 : RV F w1 v1) (r2 : RV F w2 v2) : EqV H v1 v2 := by
 induction e with
 | pl h =>
  obtain ⟨v, a, b, c⟩ := pl_v h
  cases c _ _ r1
  cases c _ _ r2
  exact .flat a b
 | list e h =>
  refine cps fun G0 z0 => ?_
  obtain ⟨vs, hc, r⟩ := rh.get e
  obtain ⟨b, vs', rfl, hb, r'⟩ := r2
  obtain ⟨v, f, d, c⟩ := pl_v h
  cases c _ _ ⟨vs, rfl, r⟩
  cases c _ _ ⟨vs', rfl, r'⟩
  refine z0 ?_
  clear z0
  rw [show v1 = _ from r1]
  exact .list hc (rh.fz _ _ hb).1 f (Nat.le_of_succ_le_succ d)
 | dict e1 e2 hl hh =>
  obtain ⟨kv1, ep1, hc1, q1⟩ := rh.get e1
  obtain ⟨kv2, ep2, hc2, q2⟩ := rh.get e2
  rw [show v1 = _ from r1, show v2 = _ from r2]
  refine .dict hc1 hc2 (by rw [q1.len, q2.len, hl]) fun p hp => ?_
  refine cps fun G0 z0 => ?_
  obtain ⟨q, hq, ek, rq⟩ := q1.mem' p hp
  obtain ⟨h1, h2⟩ := hh q hq
  obtain ⟨v, f, d, c⟩ := pl_v h2
  obtain ⟨v', hv, rv⟩ := q2.at h1
  refine z0 ?_
  clear z0
  rw [ek, c _ _ rq, hv, c _ _ rv]
  exact ⟨rfl, f, d⟩
inductive EqWs (l : Hl) : List W -> List W -> Prop
 | nil : EqWs l [] []
 | cons {v w r q} (e : EqW l v w) (t : EqWs l r q) : EqWs l (v :: r) (w :: q)
theorem eqWs_V {F : Fz} {l : Hl} {H : Hp} (rh : RH F l H) {a b : List W} (e : EqWs l a b) : ∀ {x y : List V}, RVs F a x -> RVs F b y -> EqVs H x y := by
 induction e with
 | nil => intro x y r1 r2; rw [show x = _ from r1, show y = _ from r2]; exact .nil
 | cons e t ih =>
  intro x y r1 r2
  obtain ⟨v, r, rfl, a, b⟩ := r1
  obtain ⟨v', r', rfl, a', b'⟩ := r2
  exact .cons (eqW_V rh e a a') (ih b b')
theorem eqTs {X : Wd} {l : Hl} {a b : List W} (e : EqWs l a b) : EqP X true (.tup a) (.tup b) l true := fun n F H va vb Q ra rb rh q => by
 obtain ⟨x, rfl, r1⟩ := ra
 obtain ⟨y, rfl, r2⟩ := rb
 exact cmp_eqVs (eqWs_V rh e r1 r2) q
end
section
noncomputable abbrev SzI (i : Int) : Prop := -1073741823 <= i /\ i <= 1073741823
section
variable {X : Wd} (hX : Good X) {l R : Hl} {K : W -> Hl -> Prop}
include hX
theorem sizes_s {xs : List Int} (hx : ∀ i ∈ xs, SzI i) (h : K .none l) : WC2 X 121 [.tup (xs.map .int)] l K := by
 refine en121 hX fun κ => ?_
 fail "w"
 refine for_i (fun r L C l' => ∃ ys : List Int, r = ys.map .int /\ (∀ i ∈ ys, SzI i) /\ L = .s (.tup (xs.map .int)) (.o .nil) /\ C = .nil /\ l' = l) (.inl ⟨rfl, rfl⟩) ⟨xs, rfl, hx, rfl, rfl, rfl⟩ ?_ ?_
 ·rintro L C l' ⟨ys, _, _, rfl, rfl, rfl⟩
  fail "w"
  exact h
 ·rintro v r L C l' ⟨ys, hr, hy, rfl, rfl, rfl⟩
  cases ys with
  | nil => cases hr
  | cons y ys =>
   cases hr
   fail "w"
   refine is_size_s hX (hy y (.head _)) ?_
   fail "w"
   exact .next [1] Sub.rfl ⟨ys, rfl, fun i hi => hy i (.tail _ hi), rfl, rfl, rfl⟩
theorem larger_s {n : Nat} {a : Addr} {k : Int} (e2 : l.at n = some (a, .fdict (fcs k))) (hk : isF k) (h : K .none l) : WC2 X 142 [.ref a] l K := by
 refine en142 hX fun κ => ?_
 fail "w"
 refine for_i (fun r L C l' => ∃ ys : List Int, r = ys.map .int /\ (∀ c ∈ ys, ∃ w, lkG (fcs k) c = some (crow w)) /\ L = .s (.ref a) (.o (.o (.o .nil))) /\ C = .nil /\ l' = l) (.inr ⟨a, n, rfl, .inr (.inr (.inr ⟨_, e2, rfl, rfl⟩))⟩) ⟨(fcs k).map (·.1), by rw [List.map_map]; rfl, ?_, rfl, rfl, rfl⟩ ?_ ?_
 ·rcases hk with rfl | rfl
  ·intro c hc
   rcases List.mem_cons.mp hc with rfl | hc
   ·exact ⟨_, rfl⟩
   rcases List.mem_cons.mp hc with rfl | hc
   ·exact ⟨_, rfl⟩
   cases List.mem_singleton.mp hc
   exact ⟨_, rfl⟩
  ·intro c hc
   rcases List.mem_cons.mp hc with rfl | hc
   ·exact ⟨_, rfl⟩
   rcases List.mem_cons.mp hc with rfl | hc
   ·exact ⟨_, rfl⟩
   cases List.mem_singleton.mp hc
   exact ⟨_, rfl⟩
 ·rintro L C l' ⟨ys, _, _, rfl, rfl, rfl⟩
  fail "w"
  exact h
 ·rintro v r L C l' ⟨ys, hr, hy, rfl, rfl, rfl⟩
  cases ys with
  | nil => cases hr
  | cons y ys =>
   cases hr
   obtain ⟨w, hw⟩ := hy y (.head _)
   fail "w"
   refine whl_i (fun O L C l2 => L = .s (.ref a) (.s (.int y) (.s (.int y) (.s (.int 0) .nil))) /\ C = .nil /\ l2 = l') 0 ⟨rfl, rfl, rfl⟩ ?_
   rintro j L C l' ⟨rfl, rfl, rfl⟩
   fail "w"
   refine inT hw ?_
   fail "w"
   refine ⟨_, hw, ?_⟩
   fail "w"
   exact .next [1, 2, 3] Sub.rfl ⟨ys, rfl, fun c hc => hy c (.tail _ hc), rfl, rfl, rfl⟩
theorem last_s {v : W} (h : K .none l) : WC2 X 149 [.tup [], .tup [], v, .int 256] l K := by
 refine en149 hX fun κ => ?_
 fail "w"
 exact h
theorem start_s (h : K (.int (-1)) l) : WC2 X 156 [.tup []] l K := by
 refine en156 hX fun κ => ?_
 fail "w"
 exact h
omit hX in
theorem fcs_ok {k : Int} (hk : isF k) : ∀ p ∈ fcs k, (∃ w, p.2 = crow w /\ SzI w) /\ 0 <= p.1 /\ p.1 <= 255 := by
 rcases hk with rfl | rfl
 ·intro p hp
  rcases List.mem_cons.mp hp with rfl | hp
  ·exact ⟨⟨_, rfl, by decide, by decide⟩, by decide, by decide⟩
  rcases List.mem_cons.mp hp with rfl | hp
  ·exact ⟨⟨_, rfl, by decide, by decide⟩, by decide, by decide⟩
  cases List.mem_singleton.mp hp
  exact ⟨⟨_, rfl, by decide, by decide⟩, by decide, by decide⟩
 ·intro p hp
  rcases List.mem_cons.mp hp with rfl | hp
  ·exact ⟨⟨_, rfl, by decide, by decide⟩, by decide, by decide⟩
  rcases List.mem_cons.mp hp with rfl | hp
  ·exact ⟨⟨_, rfl, by decide, by decide⟩, by decide, by decide⟩
  cases List.mem_singleton.mp hp
  exact ⟨⟨_, rfl, by decide, by decide⟩, by decide, by decide⟩
theorem chars_s {n : Nat} {a : Addr} {k : Int} (e : l.at n = some (a, .dict (fcs k))) (hk : isF k) (h : K .none (l.set n (.fdict (fcs k)))) : WC2 X 135 [.ref a, .int 0] l K := by
 refine en135 hX fun κ => ?_
 fail "w"
 refine for_i (fun r L C l' => (∀ p ∈ r, (∃ w, p.2 = crow w /\ SzI w) /\ 0 <= p.1 /\ p.1 <= 255) /\ L = .s (.ref a) (.s (.int 0) (.o (.o (.o (.o .nil))))) /\ C = .nil /\ l' = l.set n (.fdict (fcs k))) ⟨a, n, rfl, .inl ⟨e, rfl⟩⟩ ⟨fcs_ok hk, rfl, rfl, rfl⟩ ?_ ?_
 ·rintro L C l' ⟨_, rfl, rfl, rfl⟩
  fail "w"
  exact h
 ·rintro ⟨c, row⟩ r L C l' ⟨hy, rfl, rfl, rfl⟩
  refine cps fun G0 z0 => ?_
  obtain ⟨⟨w, hr, hw⟩, c0, c1⟩ := hy _ (.head _)
  refine z0 ?_
  clear z0
  have hr : row = crow w := hr
  subst hr
  fail "w"
  refine is_whole_s hX ?_
  rw [decide_eq_true c0, decide_eq_true c1]
  fail "w"
  refine sizes_s hX (xs := [w, 0, 0, 0]) (fun i hi => ?_) ?_
  ·rcases List.mem_cons.mp hi with rfl | hi
   ·exact hw
   ·have h0 : ∀ i : Int, i ∈ [0, 0, (0 : Int)] -> SzI i := by decide
    exact h0 i hi
  fail "w"
  refine is_whole_s hX ?_
  fail "w"
  refine is_whole_s hX ?_
  fail "w"
  exact .next [2, 3, 4, 5] Sub.rfl ⟨fun p hp => hy p (.tail _ hp), rfl, rfl, rfl⟩
end
end
section
section
variable {X : Wd} (hX : Good X) {l R : Hl} {K : W -> Hl -> Prop}
include hX
theorem name_s {k : Int} (hk : isF k) (h : K (.str (fnm k)) l) : WC2 X 257 [.int k] l K := by
 refine en257 hX fun κ => ?_
 rcases hk with rfl | rfl
 ·fail "w"
  refine ⟨_, by decide, by decide, rfl, ?_⟩
  fail "w"
  refine whl_i (fun O L C l' => L = .s (.int 3) (.s (.int 2) (.s (.str ⟨#[99]⟩) .nil)) /\ C = .nil /\ l' = l) 0 ⟨by kernel_rfl, rfl, rfl⟩ ?_
  rintro j L C l' ⟨rfl, rfl, rfl⟩
  fail "w"
  fail "w"
  rw [show S "f" ++ ⟨#[99]⟩ = fnm 3 by kernel_rfl]
  exact h
 ·fail "w"
  refine ⟨_, by decide, by decide, rfl, ?_⟩
  fail "w"
  refine whl_i (fun j L C l' => ((j = 1 /\ L = .s (.int 70) (.s (.int 69) (.s (.str ⟨#[117]⟩) .nil))) \/ (j = 0 /\ L = .s (.int 70) (.s (.int 2) (.s (.str ⟨#[99, 117]⟩) .nil)))) /\ C = .nil /\ l' = l) 1 ⟨.inl ⟨rfl, by kernel_rfl⟩, rfl, rfl⟩ ?_
  rintro j L C l' ⟨q, rfl, rfl⟩
  rcases q with ⟨rfl, rfl⟩ | ⟨rfl, rfl⟩
  ·fail "w"
   refine ⟨_, by decide, by decide, rfl, ?_⟩
   fail "w"
   fail "w"
   exact .next [] Sub.rfl ⟨Nat.zero_lt_one, .inr ⟨rfl, by kernel_rfl⟩, rfl, rfl⟩
  ·fail "w"
   fail "w"
   rw [show S "f" ++ ⟨#[99, 117]⟩ = fnm 70 by kernel_rfl]
   exact h
end
end
section
theorem en173 {X : Wd} (hX : Good X) {v0 v1 v2 v3 v4 v5 v6 v7 v8 : W} {l : Hl} {K : W -> Hl -> Prop} (h : ∀ κ, ru X κ (RQ K) c173 [] (.s v0 (.s v1 (.s v2 (.s v3 (.s v4 (.s v5 (.s v6 (.s v7 (.s v8 .nil))))))))) (.nil) l) : WD2 X 173 [v0, v1, v2, v3, v4, v5, v6, v7, v8] l K := fun F vs H r rh =>
 wd_run (gd hX) (us := [v0, v1, v2, v3, v4, v5, v6, v7, v8]) (fa173 hX) (H := H) (fun F vs r => ⟨vs, r, fun P s vals S rv => ⟨vals, by
  have e0 := rv.length.trans r.len
  clear rv r rh h
  refine cps fun G0 z0 => ?_
  obtain ⟨a0, r0, rfl, e1⟩ := len_s e0
  obtain ⟨a1, r1, rfl, e2⟩ := len_s e1
  obtain ⟨a2, r2, rfl, e3⟩ := len_s e2
  obtain ⟨a3, r3, rfl, e4⟩ := len_s e3
  obtain ⟨a4, r4, rfl, e5⟩ := len_s e4
  obtain ⟨a5, r5, rfl, e6⟩ := len_s e5
  obtain ⟨a6, r6, rfl, e7⟩ := len_s e6
  obtain ⟨a7, r7, rfl, e8⟩ := len_s e7
  obtain ⟨a8, r8, rfl, e9⟩ := len_s e8
  refine z0 ?_
  clear z0
  cases len_0 e9
  have hs := S.K
  rw [hX.K] at hs ⊢
  rw [show fdA (Kf X.w.params) 173 = (fdO (o182 X.w.params)).getD default by kernel_rfl]
  exact binds_K (K := Kf X.w.params) (T := 166) (o := o175 X.w.params) hs (by kernel_rfl) (by kernel_rfl) rfl rfl rfl, rv⟩⟩) (by kernel_rfl) (by kernel_rfl) h F vs r rh
theorem en267 {X : Wd} (hX : Good X) {v0 v1 : W} {l : Hl} {K : W -> Hl -> Prop} (h : ∀ κ, ru X κ (RQ K) c267 [] (.s v0 (.s v1 (.s (.tup (smallP.map .int)) (.s (.tup []) (.s (.tup []) (.s (.int 256) (.o (.o .nil)))))))) .nil l) : WC2 X 267 [v0, v1] l K := fun F vs H r rh =>
 (wd_run (gd hX) (us := [v0, v1, .tup (smallP.map .int), .tup [], .tup [], .int 256]) (fa267 hX) (H := H) (fun F vs r => ⟨vs ++ [.tup (smallP.map .int), .tup [], .tup [], .int 256], r.app (show RVs F [.tup (smallP.map .int), .tup [], .tup [], .int 256] [.tup (smallP.map .int), .tup [], .tup [], .int 256] from ⟨_, _, rfl, ⟨_, rfl, RVs.ints _⟩, _, _, rfl, ⟨[], rfl, rfl⟩, _, _, rfl, ⟨[], rfl, rfl⟩, _, _, rfl, rfl, rfl⟩), fun P s vals S rv => ⟨vals ++ [.ref 107, .ref 258, .ref 259, .int 256 337], by
  have e0 := rv.length.trans r.len
  clear rv r rh h
  obtain ⟨a0, r0, rfl, e1⟩ := len_s e0
  obtain ⟨a1, r1, rfl, e2⟩ := len_s e1
  cases len_0 e2
  have hs := S.K
  rw [hX.K] at hs ⊢
  rw [show fdA (Kf X.w.params) 267 = (fdO (o278 X.w.params)).getD default by kernel_rfl]
  exact binds_K (K := Kf X.w.params) (T := 260) (o := o271 X.w.params) hs (by kernel_rfl) (by kernel_rfl) rfl rfl rfl, rv.append (by
  have hs := S.K
  rw [hX.K] at hs
  refine ⟨_, _, rfl, ⟨_, [.int 0 372, .int 196608 373, .int 98304 374, .int 65536 375, .int 262144 376, .int 655360 377, .int 65536 378], 0, rfl, hs _ _ (by kernel_rfl), ?_⟩, _, _, rfl, ⟨_, [], 0, rfl, hs _ _ (by kernel_rfl), rfl⟩, _, _, rfl, ⟨_, [], 0, rfl, hs _ _ (by kernel_rfl), rfl⟩, _, _, rfl, vr_int, rfl⟩
  exact ⟨_, _, rfl, vr_int, _, _, rfl, vr_int, _, _, rfl, vr_int, _, _, rfl, vr_int, _, _, rfl, vr_int, _, _, rfl, vr_int, _, _, rfl, vr_int, rfl⟩)⟩⟩) (by kernel_rfl) (by kernel_rfl) h F vs r rh).wc
end
section
section
variable {X : Wd} (hX : Good X) {l R : Hl} {K : W -> Hl -> Prop}
include hX
theorem font_init {n : Nat} {a : Addr} {k : Int} (e : l.at n = some (a, .dict (fcs k))) (hk : isF k) (h : ∀ x d c, K (.ref x) (.c c (.dict (fcs k)) (.c x (fontC d c k 0) (l.set n (.fdict (fcs k)))))) : WC2 X 246 [.int k, .str (fnm k), .int 655360, .tup (smallP.map .int), .ref a, .tup [], .tup [], .int 256] l K := by
 refine wc_mk (mk246 hX) rfl rfl fun x d => en173 hX fun κ => ?_
 have hk0 : 1 <= k /\ k <= 255 := by rcases hk with rfl | rfl <;> decide
 have hl : (fcs k).length <= 10000000 := by rcases hk with rfl | rfl <;> decide
 have hn : (fnm k == S "") = false := by rcases hk with rfl | rfl <;> kernel_rfl
 fail "w"
 refine is_whole_s hX ?_
 rw [decide_eq_true hk0.1, decide_eq_true hk0.2]
 fail "w"
 rw [hn]
 fail "w"
 refine is_whole_s hX ?_
 fail "w"
 refine is_whole_s hX ?_
 fail "w"
 refine sizes_s hX (xs := smallP) (by decide) ?_
 fail "w"
 refine sizes_s hX (xs := []) (by decide) ?_
 fail "w"
 refine chars_s hX (n := n + 1) e hk ?_
 fail "w"
 refine larger_s hX (n := n + 1) (Hl.at_set e) hk ?_
 fail "w"
 refine last_s hX ?_
 fail "w"
 refine .frI (ns := smallP) rfl ?_
 fail "w"
 refine acc (n + 1) (Hl.at_set (l := l) e) ?_
 fail "w"
 intro c
 fail "w"
 refine start_s hX ?_
 fail "w"
 exact ⟨rfl, h x d c⟩
end
noncomputable def wdI (k : Int) : List (Int × Int) := if k = 3 then [(65, 5), (97, -3), (200, 70000)] else [(66, 9), (98, 0), (255, 1048573)]
noncomputable abbrev rowW (p : Int × Int) : W := .tup [.int p.1, .int p.2, .int 0, .int 0]
noncomputable abbrev crw (p : Int × Int) : Int × W := (p.1, crow p.2)
theorem fcs_wdI {k : Int} (hk : isF k) : (wdI k).map crw = fcs k := by rcases hk with rfl | rfl <;> rfl
theorem wdI_ok {k : Int} (hk : isF k) : ((wdI k).map (·.1)).Nodup /\ (wdI k).length = 3 := by rcases hk with rfl | rfl <;> decide
theorem rows_s {X : Wd} (hX : Good X) {l : Hl} {K : W -> Hl -> Prop} {k : Int} (hk : isF k) (h : ∀ x d c, K (.ref x) (.c c (.dict (fcs k)) (.c x (fontC d c k 0) l))) : WC2 X 267 [.int k, .lst ((wdI k).map rowW)] l K := by
 refine .sub (en267 hX fun κ => ?_)
 have hk0 : 1 <= k /\ k <= 255 := by rcases hk with rfl | rfl <;> decide
 obtain ⟨nd, hl⟩ := wdI_ok hk
 fail "w"
 refine is_whole_s hX ?_
 rw [decide_eq_true hk0.1, decide_eq_true hk0.2]
 fail "w"
 intro a
 fail "w"
 refine for_i (fun r L C l' => ∃ d e : List (Int × Int), wdI k = d ++ e /\ r = e.map rowW /\ l' = .c a (.dict (d.map crw)) l /\ L = .s (.int k) (.s (.lst ((wdI k).map rowW)) (.s (.tup (smallP.map .int)) (.s (.tup []) (.s (.tup []) (.s (.int 256) (.s (.ref a) (.o .nil))))))) /\ C = .nil) (.inl ⟨rfl, rfl⟩) ⟨[], wdI k, rfl, rfl, rfl, rfl, rfl⟩ ?_ ?_
 ·rintro L C l' ⟨d, e, hd, hr, rfl, rfl, rfl⟩
  obtain rfl := List.map_eq_nil_iff.mp hr.symm
  rw [List.append_nil] at hd
  subst hd
  rw [fcs_wdI hk]
  fail "w"
  refine name_s hX hk ?_
  fail "w"
  refine font_init hX (n := 0) rfl hk fun x d c => ?_
  fail "w"
  exact ⟨_, .cons (.cons (.tail .rfl)), h x d c⟩
 ·rintro v r L C l' ⟨d, e, hd, hr, rfl, rfl, rfl⟩
  cases e with
  | nil => cases hr
  | cons p e =>
   cases hr
   have hn : lkG (d.map crw) p.1 = none := by
    refine nodup_disj (m := (p :: e).map crw) (v := crow p.2) ?_ (.head _)
    rw [<- List.map_append, <- hd, List.map_map]
    exact nd
   have hz : (d.map crw).length <= 3 := by
    rw [hd, List.length_append] at hl
    rw [List.length_map]
    lia
   fail "w"
   refine inF hn ?_
   fail "w"
   simp only [putG_new hn]
   exact .next [7] Sub.rfl ⟨d ++ [p], e, by rw [hd, List.append_assoc]; rfl, rfl, by rw [List.map_append]; rfl, rfl, rfl⟩
end
section
theorem lc_map {w : W} {l l1 : Hl} {α} {fin : List W -> Hl -> Prop} {body} {xs : List α} (f : α -> W) (g : α -> W) (i : Its w l (xs.map f) l1) (hz : xs.length <= 10000000) (he : fin (xs.map g) l1) (hs : ∀ v (Q' : Qt), v ∈ xs -> (∀ L C, Q' (.ret (g v)) L C l1) -> body Q' (f v) l1) : LcP w l fin body := by
 refine lc_i (fun r d l' => l' = l1 /\ ∃ a b, xs = a ++ b /\ r = b.map f /\ d = a.map g) i ⟨rfl, [], xs, rfl, rfl, rfl⟩ ?_ ?_
 ·rintro d _ ⟨rfl, a, b, e, hr, rfl⟩
  obtain rfl := List.map_eq_nil_iff.mp hr.symm
  rw [List.append_nil] at e
  exact e ▸ he
 ·rintro v r d _ ⟨rfl, a, b, e, hr, rfl⟩
  cases b with
  | nil => cases hr
  | cons x b =>
   cases hr
   have hl := congrArg List.length e
   rw [List.length_append] at hl
   refine ⟨by rw [List.length_map]; lia, hs x _ (e ▸ List.mem_append_right _ (.head _)) fun L C => .ret ⟨rfl, a ++ [x], b, by rw [e, List.append_assoc]; rfl, rfl, by rw [List.map_append]; rfl⟩⟩
theorem sorted_wds {k : Int} {ks : List Int} (hk : isF k) (hp : ks.Perm ((wds k).map (·.1))) (hs : ks.Pairwise (· <= ·)) : ks = (wdI k).map (·.1) := by
 refine List.Perm.eq_of_pairwise (fun a b O O h1 h2 => Int.le_antisymm h1 h2) hs ?_ (hp.trans (.of_eq ?_))
 ·rcases hk with rfl | rfl <;> decide
 ·rcases hk with rfl | rfl <;> rfl
theorem wds_lk {k : Int} (hk : isF k) : ∀ p ∈ wdI k, lkG (wds k) p.1 = some (.int p.2) := by
 rcases hk with rfl | rfl
 ·intro p hp
  rcases List.mem_cons.mp hp with rfl | hp
  ·rfl
  rcases List.mem_cons.mp hp with rfl | hp
  ·rfl
  cases List.mem_singleton.mp hp
  rfl
 ·intro p hp
  rcases List.mem_cons.mp hp with rfl | hp
  ·rfl
  rcases List.mem_cons.mp hp with rfl | hp
  ·rfl
  cases List.mem_singleton.mp hp
  rfl
noncomputable def cFb : Cd := .sl 3 (.l 3 (.f 480 1 (.se 2 (.l 3 (.e 2 (.b .sorted 1 (.lc [2] ⟨[], [S "code"], [], [S "by_code"]⟩ (.l 0 (.e 0 (.l 0 (.sub (.i 0 (.i 0 (.tup 4 .ret))))))) (.f 267 2 (.l 1 (.l 3 (.ss .done)))))))))))
theorem turn_s {X : Wd} (hX : Good X) {κ : Kx} {Q' : Qt} {k : Int} (hk : isF k) {w0 w2 c0 c1 : W} {L C2 L' : LW} {fo : Addr} {n : Nat} {fs : List (Int × W)} {l : Hl} (e : l.at n = some (fo, .dict fs)) (hf : lkG fs k = none) (hz : fs.length <= 100) (hL : ∀ k, setL L 0 k = fun f => f (.s k L')) (hC : ∀ k, setL C2 0 k = fun f => f (.s k .nil))
  (h : ∀ d x b c, Q' .next (.s w0 (.s (.ref fo) (.s w2 (.s (.int k) L')))) (.s c0 (.s c1 (.s (.ref b) .nil))) (.c c (.dict (fcs k)) (.c x (fontC d c k 0) (.c b (.dict (wds k)) (l.set n (.dict (fs ++ [(k, .ref x)]))))))) :
  ru X κ Q' cFb [.int k] (.s w0 (.s (.ref fo) (.s w2 L))) (.s c0 (.s c1 C2)) l := by
 have hw := wds_len k
 refine' show setL L 0 _ _ from ?_
 rw [hL]
 fail "w"
 refine widths_s hX hk fun b => ?_
 refine' show setL C2 0 _ _ from ?_
 rw [hC]
 fail "w"
 intro ns hns
 obtain rfl := sorted_wds hk hns.1 hns.2
 refine' stI ?_
 refine lc_map (xs := wdI k) (fun p => .int p.1) rowW (.inl ⟨(List.map_map (f := Prod.fst) (g := W.int)).symm, rfl⟩) (by rw [(wdI_ok hk).2]; decide) (.inl ?_) fun p Q' hp q env => ?_
 rotate_left
 ·fail "w"
  refine ⟨_, wds_lk hk p hp, ?_⟩
  fail "w"
  exact q _ _
 fail "w"
 refine rows_s hX hk fun x d c => ?_
 fail "w"
 refine acc (n + 3) e ?_
 fail "w"
 rw [putG_new hf]
 exact h d x b c
end
section
noncomputable abbrev hZ (D : TdA) (F : FA) (src pg : Addr) (t : Tri) (ps : C2) (T : List TEnt) (b1 : List Int) : Hl := hT D T b1 (hF F (.c src (srC t) (.c pg ps .nil)))
noncomputable abbrev hFo (fo : Addr) (fs : List (Int × W)) (D : TdA) (src pg : Addr) (t : Tri) (R : Hl) : Hl := .c pg (.list []) (.c fo (.dict fs) (.c D.tl (.list [.ref D.td, .ref D.t1]) (.c D.t1 (.il []) (.c D.td (.dict []) (.c src (srC t) R)))))
noncomputable def Hl.pulls : List Nat -> Hl -> Hl
 | [], _ => .nil
 | i :: r, l => match l.at i with
  | some p => .c p.1 p.2 (Hl.pulls r (l.del i))
  | none => .nil
theorem Sub.pulls : ∀ (is : List Nat) {l : Hl}, Sub l (l.pulls is)
 | [], l => ⟨l.tl, .rfl⟩
 | i :: r, l => by
  dsimp only [Hl.pulls]
  cases e : l.at i with
  | none => exact ⟨l.tl, .rfl⟩
  | some p => exact .trans (.pull e) (.cons (Sub.pulls r))
noncomputable abbrev hF0 (A : FA) (k : Int) (R : Hl) : Hl := .c A.fo (.dict [(3, .ref A.f1), (70, .ref A.f2)]) (.c A.f1 (fontC A.d1 A.c1 3 k) (.c A.c1 (.dict (fcs 3)) (.c A.f2 (fontC A.d2 A.c2 70 0) (.c A.c2 (.dict (fcs 70)) R))))
noncomputable def Lf (s4 : List Int) (fo pg : Addr) : LW := .s (.il s4) (.s (.ref fo) (.s (.ref pg) (.o (.o (.o (.o (.o (.o (.o (.o (.o (.o (.o (.o (.o (.o (.o .nil)))))))))))))))))
inductive FoI (s4 : List Int) (D : TdA) (src fo pg : Addr) (t : Tri) (r : List W) (L C : LW) (l : Hl) : Prop
 | a (er : r = [.int 3, .int 70]) (eL : L = Lf s4 fo pg) (eC : C = .s (.ref src) (.s (.ref D.tl) (.o .nil))) (el : l = hFo fo [] D src pg t .nil)
 | b {x d c b : Addr} (er : r = [.int 70]) (eL : L = Lf s4 fo pg) (eC : C = .s (.ref src) (.s (.ref D.tl) (.s (.ref b) .nil))) (el : l = .c c (.dict (fcs 3)) (.c x (fontC d c 3 0) (hFo fo [(3, .ref x)] D src pg t .nil)))
 | c (F : FA) (b : Addr) (er : r = []) (e : F.fo = fo) (eL : L = Lf s4 fo pg) (eC : C = .s (.ref src) (.s (.ref D.tl) (.s (.ref b) .nil))) (el : l = hT D [] [] (hF0 F 0 (.c src (srC t) (.c pg (.list []) .nil))))
inductive ClI (m : Nat) (Z : Tri -> Hl) (r d : List W) (l : Hl) : Prop
 | i (j k : Nat) (cl : List Int) (t : Tri) (e : j + k = m) (er : r = rgW (j : Int) 1 k) (ed : d = cl.map .int) (hl : cl.length = j) (ho : ∀ i ∈ cl, 0 <= i /\ i < 256) (el : l = Z t)
inductive PgI (N : Nat) (Z : List Pg -> List TEnt -> List Int -> Tri -> Hl) (L0 C0 : LW) (r : List W) (L C : LW) (l : Hl) : Prop
 | i (j k : Nat) (Rp : List Pg) (T : List TEnt) (P Ad : List (Int × W)) (b1 : List Int) (t : Tri) (e : j + k = N) (er : r = rgW (j : Int) 1 k) (hl : Rp.length = j) (hc : Chain [] [] [] [] (Rp.map Pg.p) T P Ad b1) (el : l = Z Rp T b1 t) (eL : L = L0) (eC : C = C0)
inductive DfI (S : List TEnt) (Z : Tri -> Hl) (L0 : List TEnt -> List (TEnt × Nat) -> LW) (C0 : LW) (r : List W) (L C : LW) (l : Hl) : Prop
 | i (a c : List TEnt) (Lw : List (TEnt × Nat)) (t : Tri) (e : S = a ++ c) (er : r = c.map (fun t => .int t.nr)) (hw : Lw.map (·.1) = a.reverse) (hm : ∀ p ∈ Lw, 1 <= p.2 /\ p.2 <= 4) (el : l = Z t) (eL : L = L0 a Lw) (eC : C = C0)
inductive RwI (S : List TEnt) (l0 : Hl) (r : List W) (d : List (Int × W)) (l : Hl) : Prop
 | i (a c : List TEnt) (e : S = a ++ c) (er : r = c.map (fun t => .int t.nr)) (ed : d = trows a) (el : l = l0)
theorem sc_mono {f g : List W -> Bool} (h : ∀ ws, f ws = true -> g ws = true) {w : W} : w.sc f = true -> w.sc g = true := by
 cases w with
 | tup ws => exact h ws
 | _ => exact id
theorem pl_up {d : Nat} : ∀ {w : W}, w.pl d = true -> w.pl (d + 1) = true := by
 induction d with
 | zero => exact sc_mono (fun O z => ff_no z)
 | succ d ih => exact sc_mono (fun O z => List.all_eq_true.mpr fun w hw => ih (List.all_eq_true.mp z w hw))
theorem pl_le {d e : Nat} {w : W} (k : d <= e) (h : w.pl d = true) : w.pl e = true := k.rec h fun O i => pl_up i
theorem FRest.pl {k : Nat} {nr : Int} {row : W} {bs : List Int} (h : FRest k nr row bs) : row.pl 100 = true := by
 induction h
 rfl
theorem perm_lift {α β : Type} {f : α -> β} {l ks : List β} (h : l.Perm ks) : ∀ T : List α, T.map f = l -> ∃ S : List α, S.Perm T /\ S.map f = ks := by
 induction h with
 | nil => intro T e; exact ⟨[], by rw [List.map_eq_nil_iff.mp e], rfl⟩
 | cons x _ ih =>
  intro T e
  cases T with
  | nil => cases e
  | cons t T =>
   cases e
   obtain ⟨S, p, q⟩ := ih T rfl
   exact ⟨t :: S, p.cons t, congrArg (_ :: ·) q⟩
 | swap x y l =>
  intro T e
  cases T with
  | nil => cases e
  | cons t T => cases T with
   | nil => cases e
   | cons u T => cases e; exact ⟨u :: t :: T, .swap .., rfl⟩
 | trans _ _ ih1 ih2 =>
  intro T e
  obtain ⟨S, p, q⟩ := ih1 T e
  obtain ⟨S', p', q'⟩ := ih2 S q
  exact ⟨S', p'.trans p, q'⟩
theorem ldL_snoc (L : List (TEnt × Nat)) (t : TEnt) (m : Nat) : ldL (L ++ [(t, m)]) = ldL L ++ ((242 + (m : Int)) :: (putB t.nr m ++ t.rest)) := by
 unfold ldL
 rw [List.map_append, List.flatten_append]
 exact congrArg (_ ++ ·) (List.append_nil _)
theorem ldL_cons (L : List (TEnt × Nat)) (t : TEnt) (m : Nat) : ldL ((t, m) :: L) = ((242 + (m : Int)) :: (putB t.nr m ++ t.rest)) ++ ldL L := rfl
theorem lk_kv {T : List TEnt} {t : TEnt} (nd : (T.map (·.nr)).Nodup) (h : t ∈ T) : lkG (T.map TEnt.kv) t.nr = some (.tup [.il t.rest, t.row]) :=
 lk_nodup (by rw [List.map_map]; exact nd) (List.mem_map_of_mem (f := TEnt.kv) h)
theorem law_s {X : Wd} (hX : Good X) {sc : Addr} {ns : List Int} {xs : List Value} {m : Nat} (e : X.B.get? sc = some (lstO xs m)) (rs : ∀ h, VRs h (ns.map V.int) xs) (hl : ns.length <= 63) {K : W -> Hl -> Prop} (h : ∀ l, K (.bool true) l) : WD2 X 582 [.ref sc] .nil K := by
 refine en582 hX fun κ => ?_
 fail "w"
 refine ⟨xs, m, ns, e, rs, by decide, by lia, ?_⟩
 have h4 : (ns.take (Int.toNat 4)).length <= 4 := by rw [List.length_take]; exact Nat.min_le_left _ _
 revert h4
 generalize ns.take (Int.toNat 4) = s4
 intro h4
 fail "w"
 refine source_s hX (by lia) (by decide) fun src t => ?_
 fail "w"
 intro td
 fail "w"
 refine .nwI (ns := []) rfl fun t1 => ?_
 fail "w"
 refine .new fun tl => ?_
 fail "w"
 intro fo
 fail "w"
 refine .new fun pg => ?_
 fail "w"
 refine for_i (FoI s4 ⟨tl, td, t1⟩ src fo pg t) (.inl ⟨rfl, rfl⟩) (.a rfl rfl rfl rfl) ?_ ?_
 rotate_left
 ·intro v r L C l i
  cases i with
  | a er eL eC el =>
   subst eL eC el
   cases er
   exact turn_s hX (.inl rfl) (n := 1) rfl rfl (Nat.le_of_ble_eq_true rfl) (fun O => rfl) (fun O => rfl) fun d x b c => .next [3] (.pulls [0, 0, 1, 1, 1, 1, 1, 1]) (.b rfl rfl rfl rfl)
  | @b x d c b er eL eC el =>
   subst eL eC el
   cases er
   exact turn_s hX (.inr rfl) (n := 3) rfl rfl (Nat.le_of_ble_eq_true rfl) (fun O => rfl) (fun O => rfl) fun d2 x2 b2 c2 => .next [3] (.pulls [9, 8, 7, 6, 4, 3, 1, 0, 2, 1]) (.c ⟨fo, x, d, c, x2, d2, c2⟩ b2 rfl rfl rfl rfl rfl)
  | c F b er => cases er
 intro L C l i
 cases i with
 | a er => cases er
 | b er => cases er
 | c F b er e eL eC el =>
 subst e
 subst eL eC el
 fail "w"
 refine ⟨_, rfl, ?_⟩
 fail "w"
 refine take_s hX (n := 8) rfl (by decide) fun d1 t2 hd1 => ?_
 fail "w"
 refine take_s hX (n := 8) rfl (by decide) fun d2 t3 hd2 => ?_
 fail "w"
 refine take_s hX (n := 8) rfl (by decide) fun m1 t4 hm1 => ?_
 obtain ⟨m1, hm1, rfl⟩ := ways hm1
 fail "w"
 refine lc_i (ClI m1 fun t => hZ ⟨tl, td, t1⟩ F src pg t (.list []) [] []) (rg_up (k := m1) (by lia) (by decide) (by lia)) ⟨0, m1, [], t4, by lia, rfl, rfl, rfl, oct_nil, rfl⟩ ?_ ?_
 rotate_left
 ·rintro v r d l ⟨j, k, cl, t, hjk, hr, rfl, hcl, hco, rfl⟩
  cases k with
  | zero => cases hr
  | succ k =>
   cases hr
   refine ⟨by rw [List.length_map]; lia, fun env => ?_⟩
   fail "w"
   refine take_s hX (n := 8) rfl (by decide) fun d t' hd => ?_
   fail "w"
   refine ixA ⟨hd.1, hd.2⟩ (by decide) fun v hv => ?_
   obtain ⟨i, rfl, hi⟩ := inN (m := 255) rfl hv
   fail "w"
   exact ⟨j + 1, k, cl ++ [(i : Int)], t', by lia, rfl, by rw [List.map_append]; rfl, by rw [List.length_append, hcl]; rfl, oct_app hco (oct_cons ⟨Int.natCast_nonneg _, Int.ofNat_lt.mpr (Nat.lt_succ_of_le hi)⟩ oct_nil), rfl⟩
 rintro d l ⟨j, k, cl, t, hjk, hr, rfl, hcl, hco, rfl⟩
 induction k with
 | succ k => cases hr
 | zero =>
 have hcl : cl.length <= 3 := by lia
 clear hr hjk hm1
 refine .inr ⟨cl, rfl, ?_⟩
 fail "w"
 refine far_s hX (n := 8) rfl fun ta t5 hta => ?_
 fail "w"
 refine far_s hX (n := 8) rfl fun wi t6 hwi => ?_
 fail "w"
 refine take_s hX (n := 8) rfl (by decide) fun np t7 hnp => ?_
 fail "w"
 refine ixA ⟨hnp.1, hnp.2⟩ (by decide) fun v hv => ?_
 obtain ⟨N, rfl, hN⟩ := inN (m := 3) rfl hv
 clear hv hnp
 fail "w"
 refine for_i (PgI N (fun Rp T b1 t => hZ ⟨tl, td, t1⟩ F src pg t (.list (Rp.map Pg.w)) T b1) _ _)
  (rg_up (k := N) (by lia) (by decide) (by lia)) ⟨0, N, [], [], [], [], [], t7, by lia, rfl, rfl, .nil, rfl, rfl, rfl⟩ ?_ ?_
 rotate_left
 ·rintro v r L C l ⟨j, k, Rp, T, P, Ad, b1, t, hjk, hr, hRl, hch, rfl, rfl, rfl⟩
  cases k with
  | zero => cases hr
  | succ k =>
   cases hr
   have gd := hch.gd ⟨by simp, .nil, by simp, by simp⟩
   have hm : (Rp.map Pg.w).length = Rp.length := List.length_map ..
   fail "w"
   refine source_s hX (by lia) (by lia) fun c tc => ?_
   fail "w"
   refine lpage_f hX (D := ⟨tl, td, t1⟩) gd.pm gd.df gd.nd gd.ok fun s a1 cs T' A' D4 D5 b1' hcs hd => ?_
   fail "w"
   exact .next [8] Sub.rfl ⟨j + 1, k, Rp ++ [⟨s, a1, cs⟩], T', P ++ D5, A', b1', t, by lia, rfl, by rw [List.length_append, hRl]; rfl, by rw [List.map_append]; exact hch.snoc hd hcs, by rw [List.map_append]; rfl, rfl, rfl⟩
 rintro L C l ⟨j, k, Rp, T, P, Ad, b1, t, hjk, hr, hRl, hch, rfl, rfl, rfl⟩
 induction k with
 | succ k => cases hr
 | zero =>
 have hR3 : Rp.length <= 3 := by lia
 clear hr hjk hRl hN
 have q1 := putB_len (25400000 + d1) 4
 have q2 := putB_len 473628672 4
 have q3 := putB_len (1 + d2) 4
 have q4 := putB_len ta 4
 have q5 := putB_len wi 4
 fail "w"
 refine put_s hX (k := 4) rfl (by decide) ?_
 fail "w"
 refine put_s hX (k := 4) rfl (by decide) ?_
 fail "w"
 refine put_s hX (k := 4) rfl (by decide) ?_
 fail "w"
 refine .frI (ns := [_]) rfl ?_
 fail "w"
 refine put_s hX (k := 4) rfl (by decide) ?_
 fail "w"
 refine put_s hX (k := 4) rfl (by decide) ?_
 fail "w"
 refine .frI (ns := []) rfl ?_
 fail "w"
 refine .frI (ns := []) rfl ?_
 fail "w"
 have gd := hch.gd ⟨by simp, .nil, by simp, by simp⟩
 have hT2 := gd.small.2.2.2
 refine sd (by rw [List.length_map]; lia) fun ks hks => ?_
 obtain ⟨S, hST, hS⟩ := perm_lift hks.1.symm T (f := TEnt.nr) (by rw [List.map_map]; rfl)
 have hSok : ∀ t ∈ S, TOk t := fun t ht => gd.ok t (hST.mem_iff.mp ht)
 have hSl := hST.length_eq
 fail "w"
 refine for_i (DfI S (fun t => hZ ⟨tl, td, t1⟩ F src pg t (.list (Rp.map Pg.w)) T b1) (fun a Lw => .s (.il s4) (.s (.ref F.fo) (.s (.ref pg) (.o (.s (.tup [.int (25400000 + d1), .int 473628672, .int (1 + d2)]) (.s (.il cl) (.s (.int ta) (.s (.int wi) (.o (.s (.tup [.il (putB (25400000 + d1) 4 ++ putB 473628672 4 ++ putB (1 + d2) 4), .il ([((cl.map W.int).length : Int)] ++ cl), .il (putB ta 4 ++ putB wi 4)]) (.s (.il (ldL (a.map fun t => (t, 1)))) (.s (.il (ldL Lw)) (.o (.o (.o (.o (.o (.o .nil)))))))))))))))))) _)
  (.inl ⟨by rw [<- hS]; exact (List.map_map ..).symm, rfl⟩) ⟨[], S, [], t, rfl, rfl, rfl, by simp, rfl, rfl, rfl⟩ ?_ ?_
 rotate_left
 ·rintro v r L C l ⟨a, c, Lw, t, hac, hr, hLw, hLm, rfl, rfl, rfl⟩
  cases c with
  | nil => cases hr
  | cons t0 c =>
   cases hr
   have h0 : t0 ∈ S := hac ▸ List.mem_append_right _ (.head _)
   have ok := hSok t0 h0
   have hlk := lk_kv gd.nd (hST.mem_iff.mp h0)
   have hal := congrArg List.length hac
   rw [List.length_append] at hal
   have hll := congrArg List.length hLw
   rw [List.length_map, List.length_reverse] at hll
   have z1 := (ldL_len' (L := a.map fun t => (t, 1)) fun p hp => by obtain ⟨t', ht', rfl⟩ := List.mem_map.mp hp; exact ⟨hSok t' (hac ▸ List.mem_append_left _ ht'), Nat.le_refl 1, Nat.le_of_ble_eq_true rfl⟩).1
   have z2 := (ldL_len' (L := Lw) fun p hp => ⟨hSok p.1 (hac ▸ List.mem_append_left _ (List.mem_reverse.mp (hLw ▸ List.mem_map_of_mem (f := (·.1)) hp))), hLm p hp⟩).1
   rw [List.length_map] at z1
   have zr := ok.l
   have zp := putB_len t0.nr 1
   fail "w"
   refine ⟨_, hlk, ?_⟩
   fail "w"
   refine defined_s hX (m := 1) rfl (by decide) (by lia) ?_
   fail "w"
   refine take_s hX (n := 8) rfl (by decide) fun d t' hd => ?_
   obtain ⟨d, hd', rfl⟩ := ways hd
   have zq := putB_len t0.nr (1 + d)
   fail "w"
   refine ⟨_, hlk, ?_⟩
   fail "w"
   refine defined_s hX (m := 1 + d) rfl (by lia) (by lia) ?_
   fail "w"
   refine .next [3] Sub.rfl ⟨a ++ [t0], c, (t0, 1 + d) :: Lw, t', by rw [hac, List.append_assoc]; rfl, rfl, by rw [List.map_cons, hLw, List.reverse_append]; rfl, fun p hp => ?_, rfl, ?_, rfl⟩
   ·rcases List.mem_cons.mp hp with rfl | hp
    ·exact ⟨by show 1 <= 1 + d; lia, by show 1 + d <= 4; lia⟩
    ·exact hLm p hp
   ·simp only [List.map_append, show [t0].map (fun t : TEnt => (t, 1)) = [(t0, 1)] from rfl, ldL_snoc, ldL_cons]; rfl
 rintro L C l ⟨a, c, Lw, t, hac, hr, hLw, hLm, rfl, rfl, rfl⟩
 refine cps fun G0 z0 => ?_
 obtain rfl := List.map_eq_nil_iff.mp hr.symm
 refine z0 ?_
 clear z0
 rw [List.append_nil] at hac
 subst hac
 fail "w"
 have pf := hch.pgf
 have hM : ∀ p ∈ Rp, PgF p.p := fun p hp => pf _ (List.mem_map_of_mem (f := Pg.p) hp)
 refine .frI (ns := [0]) rfl ?_
 fail "w"
 refine lc_map (l1 := hZ ⟨tl, td, t1⟩ F src pg t (.frz (Rp.map Pg.w)) T b1) (xs := Rp) Pg.w (fun q => .int q.s.d4) (.inr ⟨pg, 9, rfl, .inl ⟨_, rfl, rfl, rfl⟩⟩) (by lia) (.inr ⟨Rp.map (·.s.d4), (List.map_map ..).symm, ?_⟩) fun p Q' hp q env => ?_
 rotate_left
 ·fail "w"
  exact q _ _
 have hml : (Rp.map (·.s.d4)).length = Rp.length := List.length_map ..
 have hml5 : (Rp.map (·.s.d5)).length = Rp.length := List.length_map ..
 fail "w"
 intro M4 hM4
 fail "w"
 refine .frI (ns := [0]) rfl ?_
 fail "w"
 refine lc_map (xs := Rp) Pg.w (fun q => .int q.s.d5) (.inr ⟨pg, 9, rfl, .inr (.inl ⟨rfl, rfl⟩)⟩) (by lia) (.inr ⟨Rp.map (·.s.d5), (List.map_map ..).symm, ?_⟩) fun p Q' hp q env => ?_
 rotate_left
 ·fail "w"
  exact q _ _
 fail "w"
 intro M5 hM5
 fail "w"
 refine .frI (ns := []) rfl ?_
 fail "w"
 refine .frI (ns := []) rfl ?_
 fail "w"
 refine take_s hX (n := 8) rfl (by decide) fun f1 t8 hf1 => ?_
 fail "w"
 rw [List.length_map, List.append_assoc (putB (25400000 + d1) 4)]
 refine cps fun G0 z0 => ?_
 obtain ⟨f10, f11⟩ := hf1
 obtain ⟨d10, d11⟩ := hd1
 obtain ⟨d20, d21⟩ := hd2
 refine z0 ?_
 clear z0
 have hok : ∀ q ∈ Rp, q.ok := fun q hq => ⟨(hM q hq).cs.1, (hM q hq).l4.1, (hM q hq).l5.1⟩
 have zl := (ldL_len' (L := S.map fun t => (t, 1)) fun p hp => by obtain ⟨t', ht', rfl⟩ := List.mem_map.mp hp; exact ⟨hSok t' ht', Nat.le_refl 1, Nat.le_of_ble_eq_true rfl⟩).1
 have zL := (ldL_len' (L := Lw) fun p hp => ⟨hSok p.1 (List.mem_reverse.mp (hLw ▸ List.mem_map_of_mem (f := (·.1)) hp)), hLm p hp⟩).1
 have hLl := congrArg List.length hLw
 simp only [List.length_map, List.length_reverse] at hLl
 simp only [List.length_map] at zl
 have z0 : (putB (25400000 + d1) 4 ++ (putB 473628672 4 ++ putB (1 + d2) 4)).length <= 100 := by rw [List.length_append, List.length_append]; lia
 have z2 : (putB ta 4 ++ putB wi 4).length <= 100 := by rw [List.length_append]; lia
 have z1 : ([(cl.length : Int)] ++ cl).length <= 100 := by show cl.length + 1 <= _; lia
 obtain ⟨ho1, ht1⟩ := told_one (a := 25400000 + d1) (b := 473628672) (c := 1 + d2) (t := ta) (w := wi) (m := (4 + f1).toNat) ⟨by lia, by lia⟩ ⟨by decide, by decide⟩ ⟨by lia, by lia⟩ hta hwi hco hcl hch hST hM4.1 hM4.2 hR3 (by lia) (by lia)
 refine lfile_i hX (n := 9) (qs := Rp) (.inr ⟨pg, 9, rfl, .inr (.inl ⟨rfl, rfl⟩)⟩) rfl hok (.inl rfl) hR3 z0 z1 z2 (Nat.zero_le _) (Nat.zero_le _) (by lia) ⟨by lia, by lia⟩ ho1 ?_
 fail "w"
 refine .frI (ns := [138]) rfl ?_
 fail "w"
 refine take_s hX (n := 8) rfl (by decide) fun f2 t9 hf2 => ?_
 have f20 := hf2.1
 have f21 := hf2.2
 fail "w"
 refine .frI (ns := List.replicate f2.toNat 138) List.map_replicate.symm ?_
 fail "w"
 refine take_s hX (n := 8) rfl (by decide) fun f3 t10 hf3 => ?_
 have f30 := hf3.1
 have f31 := hf3.2
 fail "w"
 refine take_s hX (n := 8) rfl (by decide) fun f4 t11 hf4 => ?_
 have f40 := hf4.1
 have f41 := hf4.2
 fail "w"
 have hM5' : M5 <= 60 := by
  rcases List.mem_cons.mp hM5.1 with h | h
  ·lia
  ·obtain ⟨r, hr, e⟩ := List.mem_map.mp h
   have := (hM r hr).d5
   have e : r.s.d5 = M5 := e
   have := this.2
   have : r.s.d5 <= 60 := this
   lia
 have hM50 := hM5.2 0 (.head _)
 have hb1 := gd.df.len
 have hAl := gd.small.1
 obtain ⟨ho2, ht2⟩ := told_two (a := 25400000 + d1) (b := 473628672) (c := 1 + d2) (t := ta) (w := wi) (mi := f2.toNat) (st := M5 + f3) (m := (4 + f4).toNat) ⟨by lia, by lia⟩ ⟨by decide, by decide⟩ ⟨by lia, by lia⟩ hta hwi hco hcl hch hST hLw hLm (by lia) hM5.1 hM5.2 ⟨by lia, by lia⟩ hR3 (by lia) (by lia)
 refine lfile_r hX (n := 9) (j := 1) (qs := Rp) (.inr ⟨pg, 9, rfl, .inr (.inl ⟨rfl, rfl⟩)⟩) rfl hok (.inr rfl) hR3 z0 z1 z2 (by lia) (by rw [List.length_replicate]; lia) (by lia) ⟨by lia, by lia⟩ ho2 ?_ rfl
 fail "w"
 clear ho1 ho2 hok zl zL hLl z0 z2 z1 hb1 hks hS hSl hSok hLw hLm
 intro ks2 hks2
 obtain ⟨S2, hST2, hS2⟩ := perm_lift hks2.1.symm T (f := TEnt.nr) (by rw [List.map_map]; rfl)
 have hSl2 := hST2.length_eq
 have nd2 : (S2.map (·.nr)).Nodup := (hST2.map (·.nr)).nodup_iff.mpr gd.nd
 fail "w"
 refine ⟨S2.map fun t => .int t.nr, hZ ⟨tl, td, t1⟩ F src pg t11 (.frz (Rp.map Pg.w)) T b1, RwI S2 (hZ ⟨tl, td, t1⟩ F src pg t11 (.frz (Rp.map Pg.w)) T b1), .inl ⟨by rw [<- hS2]; exact (List.map_map ..).symm, rfl⟩, ⟨[], S2, rfl, rfl, rfl, rfl⟩, ?_, ?_⟩
 rotate_left
 ·rintro v r d l ⟨a, c, hac, hr, rfl, rfl⟩
  cases c with
  | nil => cases hr
  | cons t0 c =>
   cases hr
   have h0 : t0 ∈ S2 := hac ▸ List.mem_append_right _ (.head _)
   have hlk := lk_kv gd.nd (hST2.mem_iff.mp h0)
   have hal := congrArg List.length hac
   rw [List.length_append] at hal
   refine ⟨t0.nr, rfl, by rw [List.length_map]; lia, fun env => ?_⟩
   fail "w"
   refine ⟨_, hlk, ?_⟩
   fail "w"
   refine ⟨a ++ [t0], c, by rw [hac, List.append_assoc]; rfl, rfl, ?_, rfl⟩
   rw [putG_new, trows, trows, List.map_append]
   ·rfl
   ·rw [hac, List.map_append] at nd2
    refine nodup_disj (m := trows [t0]) (v := t0.row) ?_ (.head _)
    rw [List.map_append, trows_keys]
    exact nd2.sublist ((List.Sublist.refl _).append (List.Sublist.cons_cons _ (List.nil_sublist _)))
 rintro d l ⟨a, c, hac, hr, rfl, rfl⟩ de
 obtain rfl := List.map_eq_nil_iff.mp hr.symm
 rw [List.append_nil] at hac
 subst hac
 clear hr
 fail "w"
 refine lc_map (xs := Rp) Pg.w (fun r => .tup [.tup (r.cs.map W.int), .tup r.s.rows]) (.inr ⟨pg, 10, rfl, .inr (.inl ⟨rfl, rfl⟩)⟩) (by lia) (.inl ?_) fun p Q' hp q env => ?_
 rotate_left
 ·have hc : (p.cs.map W.int).length = 10 := by rw [List.length_map]; exact (hM p hp).cs.1
  have hr := (hM p hp).rl
  have hr : p.s.rows.length <= 100 := hr
  fail "w"
  exact q _ _
 fail "w"
 have hpl : (W.tup (Rp.map fun r => .tup [.tup (r.cs.map W.int), .tup r.s.rows])).pl 101 = true := List.all_eq_true.mpr fun w hw => by
  obtain ⟨r, hr, rfl⟩ := List.mem_map.mp hw
  have h2 : (W.tup (r.cs.map W.int)).pl 99 = true := List.all_eq_true.mpr fun w hw => by
   obtain ⟨i, _, rfl⟩ := List.mem_map.mp hw
   rfl
  have h3 : (W.tup r.s.rows).pl 99 = true := List.all_eq_true.mpr fun w hw => pl_le (by decide) (List.all_eq_true.mp (hM r hr).fl w hw)
  show (W.pl 99 _ && (W.pl 99 _ && true)) = true
  rw [h2, h3]; rfl
 have hdt : ∀ p ∈ trows T, lkG (trows S2) p.1 = some p.2 /\ p.2.pl 100 = true := fun p hp => by
  obtain ⟨t, ht, rfl⟩ := List.mem_map.mp hp
  exact ⟨lk_nodup (by rw [trows_keys]; exact nd2) (List.mem_map_of_mem (f := fun t => (t.nr, t.row)) (hST2.mem_iff.mpr ht)), ((gd.ok t ht).r 1 (by decide) (by decide)).pl⟩
 have hdl : (trows T).length = (trows S2).length := by simp only [List.length_map, List.length_map, hSl2]
 refine .pre (.pulls [4, 4, 4, 4, 4, 0]) (said_s hX (F := F) (R := .c de (.dict (trows S2)) .nil) ht1 fun pg1 kn1 => ?_)
 fail "w"
 refine ⟨true, eqTs (.cons (.pl rfl) (.cons (.pl rfl) (.cons (.list (n := 1) rfl hpl) (.cons (.dict (n := 0) (m := 7) rfl rfl hdl hdt) (.cons (.pl rfl) (.cons (.pl rfl) (.cons (.pl rfl) .nil))))))), ?_⟩
 fail "w"
 refine .pre (.tail (.tail .rfl)) (said_s hX (F := F) (R := .c de (.dict (trows S2)) .nil) ht2 fun pg2 kn2 => ?_)
 fail "w"
 refine ⟨true, eqTs (.cons (.pl rfl) (.cons (.pl rfl) (.cons (.list (n := 1) rfl hpl) (.cons (.dict (n := 0) (m := 7) rfl rfl (gd.pm.length_eq.trans hdl) fun p hp => hdt p (gd.pm.mem_iff.mp hp)) (.cons (.pl rfl) (.cons (.pl rfl) (.cons (.pl rfl) .nil))))))), ?_⟩
 fail "w"
 exact h _
end
section
theorem ints_vrs {xs : List Value} {ns : List Int} (h : IntsAre xs ns) (hp : Heap) : VRs hp (ns.map V.int) xs := by
 induction h with
 | nil => rfl
 | cons n t _ ih => exact ⟨_, _, rfl, ⟨t, rfl⟩, ih⟩
set_option tactic.hygienic true in
theorem walk {d : DefRec} {kwd : List (Str × Expr)} (hn : d.name = Str.ofString "law") : WalkO H.qv H.loose (fun O O => True) (InK Kf) PySem.Challenge.rw_tu0004_01.row.toRowW d kwd fun f vs => PySem.call f vs := by
 w_on
 intro w s₀ s₁ mg mb G Y fa o pm cd doc dV kV ho hd hcd hD hmg hg args vals as hpre hlay hrd hwl hlo
 refine Ground.open G ?_
 intro T B D TE TW
 clear hd hcd hD
 wrow_args hpre hlay hrd hwl hlo
 refine enter_call ?_
 refine codeAny_mono ?_ (fun O O g => GoodW.toG g)
 rename_i ns z1 z2 z3 z4 z5 z6 z7 la xs z8 hL ra w1 r0 hI hr hc hc'
 have Y' : (Kf w.params).In s₁.heap := Y
 have w1' : Well w.params s₁.heap (.ref la) (.list _) := w1
 have e1 : ∃ m, s₁.heap.get? la = some (lstO xs m) := by
  cases w1' with
  | list e _ =>
   refine cps fun G0 z0 => ?_
   obtain ⟨o, ho, _, m, hm⟩ := hL
   rw [e] at ho
   cases ho
   refine z0 ?_
   clear z0
   exact ⟨_, e.trans (by simp only [Data.seq.injEq] at hm; rw [hm.1])⟩
 obtain ⟨m, e1⟩ := e1
 have ef : fa = 582 := by
  have h1 := mg_of (n := Str.ofString "law") (v := .ref 582) Y' T.g (by kernel_rfl)
  rw [hn, h1] at hmg
  cases hmg; rfl
 subst ef
 have sys : ∃ o, s₁.heap.get? sysModules = some o := ⟨(List.lookup sysModules (Kf w.params)).get (by kernel_rfl), Y' _ _ (by kernel_rfl)⟩
 have h := law_s (X := ⟨w, s₁.heap, s₁.os, Kf w.params, mg, mb, T.g, T.b, T.nolimit, Y', sys, T.builtins⟩) ⟨rfl⟩ (K := fun v O => v = .bool true) (sc := la) e1 (ints_vrs hI) (by lia) (fun O => rfl) (fun O => none) [.ref la] (fun O => none) ⟨_, _, rfl, rfl, rfl⟩ ⟨List.nodup_nil, trivial, fun O O e => by cases e⟩
 refine codeAny_mono (h callerA s₁.heap.get? s₁ [.ref la] ⟨by decide, by decide, rfl⟩ ⟨fun O O e => e, fun O O e => e, fun O O e => by (cases e), hg, rfl⟩ ⟨_, _, rfl, rfl, rfl⟩) fun r s' q => ?_
 rcases r with _ | r
 ·exact q.elim
 ·cases r with
  | ret v =>
   obtain ⟨V, H', vr, S, g, ⟨_, rv, _, hv⟩⟩ := q
   subst hv
   subst rv
   rw [show v = _ from vr]
   exact ⟨.inl ⟨.bool true, .bool true, [], rfl, fun O => rfl, .bool _, by kernel_rfl, fun O => ⟨List.nodup_nil, fun a ha => by cases ha⟩⟩, S.pin, S.os, S.gens⟩
  | _ => exact q.elim
end
section
theorem kf_as (P : Params) : List.range 583 = (Kf P).map (·.1) := by kernel_rfl
noncomputable abbrev rw0 := PySem.Challenge.rw_tu0004_01
theorem sd1 : namesResolve rw0.prog = true := by kernel_rfl
theorem sd2 : noRoadLSs { strict := !(importedModules rw0.prog.main.body).all cThrough.contains, foot := none, bare := List.filter (readsOut rw0.prog rw0.prog.main.body) [Str.ofString "vars", Str.ofString "dir", Str.ofString "locals"] } rw0.prog.main.body = true := by kernel_rfl
theorem sd3 : looksOpen rw0.prog = true := by
 unfold looksOpen
 rw [sd1, sd2]
 kernel_rfl
theorem sd4 : rw0.row.wellSaid = true := by
 unfold OpenRow.wellSaid OpenRow.partSaid
 rw [show looksOpen rw0.row.prog = true from sd3]
 kernel_rfl
theorem said : rw0.wellSaid = true := by
 unfold OpenLaw.wellSaid
 rw [sd4]
 kernel_rfl
theorem fin : PySem.Challenge.rw_tu0004_01.Holds := by
 refine holds_law said fun said => ?_
 refine holds_open (q := H.qv) (loose := H.loose) (Xt := H.Xt) (XP := fun O O => True) (Yf := fun s => (List.range 583).map s.heap.get?) (Ya := fun w => (Kf w.params).map fun p => some p.2) (YP := InK Kf) (N := 9258)
  (H.left fun w os => ?ha) (InK.of kf_as) InK.keeps (fun O O => trivial) (fun O O O O O => trivial) (by rfl) (by rfl) (by rfl) (fun s O => ?hr) ?h4 ?h5 ?h6 ?h7 ?hw ?hc
 case ha => kernel_rfl
 case hr => exact recFacts_of (by kernel_rfl)
 case h4 => rfl
 case h5 => assumption
 case h6 => decide +kernel
 case h7 => exact ⟨rfl, rfl, rfl, rfl, rfl, by decide +kernel⟩
 case hw => w_witness2
 case hc => exact walk (by rfl)
end
end Mine
set_option maxRecDepth 100000 in
set_option maxHeartbeats 8000000 in
theorem PySem.Challenge.cw_tu0004_01_holds : PySem.Challenge.rw_tu0004_01.Holds := by
 exact Mine.fin
