import PyProof.Rows.All
import Wide.All
import OpenK.AllK
import Wide.FinOn
import PySem.Challenge.RW_pp0050_01
set_option Elab.async false
set_option linter.all false
section
open PySem PySem.W PyProof.Rows PySem.W.X
set_option maxRecDepth 100000
set_option maxHeartbeats 8000000
namespace Mine
noncomputable abbrev pg : Program := PySem.Challenge.pw_pp0050_01
noncomputable def stN (p : Program) (i : Nat) : Stmt := p.main.body.getD i (.Pass ⟨0, 0, 0, 0⟩)
noncomputable def inCls : Stmt → Nat → Stmt
  | .ClassDef _ _ _ b _ _ _ _ _ _ _, j => b.getD j (.Pass ⟨0, 0, 0, 0⟩)
  | x, _ => x
noncomputable def fArgs : Stmt → Arguments
  | .FunctionDef _ a _ _ _ _ _ _ _ _ => a
  | _ => ⟨[], [], none, [], [], none, []⟩
noncomputable def fBody : Stmt → List Stmt
  | .FunctionDef _ _ b _ _ _ _ _ _ _ => b
  | _ => []
noncomputable def fScope : Stmt → Scope
  | .FunctionDef _ _ _ _ _ _ s _ _ _ => s
  | _ => ⟨.function, [], false, false, []⟩
noncomputable def s0 : Str := ⟨⟨[nat_lit 95,nat_lit 95,nat_lit 110,nat_lit 97,nat_lit 109,nat_lit 101,nat_lit 95,nat_lit 95]⟩⟩
noncomputable def s1 : Str := ⟨⟨[nat_lit 98,nat_lit 117,nat_lit 105,nat_lit 108,nat_lit 116,nat_lit 105,nat_lit 110,nat_lit 115]⟩⟩
noncomputable def s2 : Str := ⟨⟨[nat_lit 95,nat_lit 95,nat_lit 100,nat_lit 111,nat_lit 99,nat_lit 95,nat_lit 95]⟩⟩
noncomputable def s3 : Str := ⟨⟨[nat_lit 95,nat_lit 95,nat_lit 112,nat_lit 97,nat_lit 99,nat_lit 107,nat_lit 97,nat_lit 103,nat_lit 101,nat_lit 95,nat_lit 95]⟩⟩
noncomputable def s4 : Str := ⟨⟨[nat_lit 95,nat_lit 95,nat_lit 108,nat_lit 111,nat_lit 97,nat_lit 100,nat_lit 101,nat_lit 114,nat_lit 95,nat_lit 95]⟩⟩
noncomputable def s5 : Str := ⟨⟨[nat_lit 95,nat_lit 95,nat_lit 115,nat_lit 112,nat_lit 101,nat_lit 99,nat_lit 95,nat_lit 95]⟩⟩
noncomputable def s6 : Str := ⟨⟨[nat_lit 95,nat_lit 95,nat_lit 98,nat_lit 117,nat_lit 105,nat_lit 108,nat_lit 100,nat_lit 95,nat_lit 99,nat_lit 108,nat_lit 97,nat_lit 115,nat_lit 115,nat_lit 95,nat_lit 95]⟩⟩
noncomputable def s7 : Str := ⟨⟨[nat_lit 95,nat_lit 95,nat_lit 105,nat_lit 109,nat_lit 112,nat_lit 111,nat_lit 114,nat_lit 116,nat_lit 95,nat_lit 95]⟩⟩
noncomputable def s8 : Str := ⟨⟨[nat_lit 97,nat_lit 98,nat_lit 115]⟩⟩
noncomputable def s9 : Str := ⟨⟨[nat_lit 97,nat_lit 108,nat_lit 108]⟩⟩
noncomputable def s10 : Str := ⟨⟨[nat_lit 97,nat_lit 110,nat_lit 121]⟩⟩
noncomputable def s11 : Str := ⟨⟨[nat_lit 97,nat_lit 115,nat_lit 99,nat_lit 105,nat_lit 105]⟩⟩
noncomputable def s12 : Str := ⟨⟨[nat_lit 98,nat_lit 105,nat_lit 110]⟩⟩
noncomputable def s13 : Str := ⟨⟨[nat_lit 98,nat_lit 114,nat_lit 101,nat_lit 97,nat_lit 107,nat_lit 112,nat_lit 111,nat_lit 105,nat_lit 110,nat_lit 116]⟩⟩
noncomputable def s14 : Str := ⟨⟨[nat_lit 99,nat_lit 97,nat_lit 108,nat_lit 108,nat_lit 97,nat_lit 98,nat_lit 108,nat_lit 101]⟩⟩
noncomputable def s15 : Str := ⟨⟨[nat_lit 99,nat_lit 104,nat_lit 114]⟩⟩
noncomputable def s16 : Str := ⟨⟨[nat_lit 99,nat_lit 111,nat_lit 109,nat_lit 112,nat_lit 105,nat_lit 108,nat_lit 101]⟩⟩
noncomputable def s17 : Str := ⟨⟨[nat_lit 100,nat_lit 101,nat_lit 108,nat_lit 97,nat_lit 116,nat_lit 116,nat_lit 114]⟩⟩
noncomputable def s18 : Str := ⟨⟨[nat_lit 100,nat_lit 105,nat_lit 114]⟩⟩
noncomputable def s19 : Str := ⟨⟨[nat_lit 100,nat_lit 105,nat_lit 118,nat_lit 109,nat_lit 111,nat_lit 100]⟩⟩
noncomputable def s20 : Str := ⟨⟨[nat_lit 101,nat_lit 118,nat_lit 97,nat_lit 108]⟩⟩
noncomputable def s21 : Str := ⟨⟨[nat_lit 101,nat_lit 120,nat_lit 101,nat_lit 99]⟩⟩
noncomputable def s22 : Str := ⟨⟨[nat_lit 102,nat_lit 111,nat_lit 114,nat_lit 109,nat_lit 97,nat_lit 116]⟩⟩
noncomputable def s23 : Str := ⟨⟨[nat_lit 103,nat_lit 101,nat_lit 116,nat_lit 97,nat_lit 116,nat_lit 116,nat_lit 114]⟩⟩
noncomputable def s24 : Str := ⟨⟨[nat_lit 103,nat_lit 108,nat_lit 111,nat_lit 98,nat_lit 97,nat_lit 108,nat_lit 115]⟩⟩
noncomputable def s25 : Str := ⟨⟨[nat_lit 104,nat_lit 97,nat_lit 115,nat_lit 97,nat_lit 116,nat_lit 116,nat_lit 114]⟩⟩
noncomputable def s26 : Str := ⟨⟨[nat_lit 104,nat_lit 97,nat_lit 115,nat_lit 104]⟩⟩
noncomputable def s27 : Str := ⟨⟨[nat_lit 104,nat_lit 101,nat_lit 120]⟩⟩
noncomputable def s28 : Str := ⟨⟨[nat_lit 105,nat_lit 100]⟩⟩
noncomputable def s29 : Str := ⟨⟨[nat_lit 105,nat_lit 110,nat_lit 112,nat_lit 117,nat_lit 116]⟩⟩
noncomputable def s30 : Str := ⟨⟨[nat_lit 105,nat_lit 115,nat_lit 105,nat_lit 110,nat_lit 115,nat_lit 116,nat_lit 97,nat_lit 110,nat_lit 99,nat_lit 101]⟩⟩
noncomputable def s31 : Str := ⟨⟨[nat_lit 105,nat_lit 115,nat_lit 115,nat_lit 117,nat_lit 98,nat_lit 99,nat_lit 108,nat_lit 97,nat_lit 115,nat_lit 115]⟩⟩
noncomputable def s32 : Str := ⟨⟨[nat_lit 105,nat_lit 116,nat_lit 101,nat_lit 114]⟩⟩
noncomputable def s33 : Str := ⟨⟨[nat_lit 97,nat_lit 105,nat_lit 116,nat_lit 101,nat_lit 114]⟩⟩
noncomputable def s34 : Str := ⟨⟨[nat_lit 108,nat_lit 101,nat_lit 110]⟩⟩
noncomputable def s35 : Str := ⟨⟨[nat_lit 108,nat_lit 111,nat_lit 99,nat_lit 97,nat_lit 108,nat_lit 115]⟩⟩
noncomputable def s36 : Str := ⟨⟨[nat_lit 109,nat_lit 97,nat_lit 120]⟩⟩
noncomputable def s37 : Str := ⟨⟨[nat_lit 109,nat_lit 105,nat_lit 110]⟩⟩
noncomputable def s38 : Str := ⟨⟨[nat_lit 110,nat_lit 101,nat_lit 120,nat_lit 116]⟩⟩
noncomputable def s39 : Str := ⟨⟨[nat_lit 97,nat_lit 110,nat_lit 101,nat_lit 120,nat_lit 116]⟩⟩
noncomputable def s40 : Str := ⟨⟨[nat_lit 111,nat_lit 99,nat_lit 116]⟩⟩
noncomputable def s41 : Str := ⟨⟨[nat_lit 111,nat_lit 114,nat_lit 100]⟩⟩
noncomputable def s42 : Str := ⟨⟨[nat_lit 112,nat_lit 111,nat_lit 119]⟩⟩
noncomputable def s43 : Str := ⟨⟨[nat_lit 112,nat_lit 114,nat_lit 105,nat_lit 110,nat_lit 116]⟩⟩
noncomputable def s44 : Str := ⟨⟨[nat_lit 114,nat_lit 101,nat_lit 112,nat_lit 114]⟩⟩
noncomputable def s45 : Str := ⟨⟨[nat_lit 114,nat_lit 111,nat_lit 117,nat_lit 110,nat_lit 100]⟩⟩
noncomputable def s46 : Str := ⟨⟨[nat_lit 115,nat_lit 101,nat_lit 116,nat_lit 97,nat_lit 116,nat_lit 116,nat_lit 114]⟩⟩
noncomputable def s47 : Str := ⟨⟨[nat_lit 115,nat_lit 111,nat_lit 114,nat_lit 116,nat_lit 101,nat_lit 100]⟩⟩
noncomputable def s48 : Str := ⟨⟨[nat_lit 115,nat_lit 117,nat_lit 109]⟩⟩
noncomputable def s49 : Str := ⟨⟨[nat_lit 118,nat_lit 97,nat_lit 114,nat_lit 115]⟩⟩
noncomputable def s50 : Str := ⟨⟨[nat_lit 78,nat_lit 111,nat_lit 110,nat_lit 101]⟩⟩
noncomputable def s51 : Str := ⟨⟨[nat_lit 69,nat_lit 108,nat_lit 108,nat_lit 105,nat_lit 112,nat_lit 115,nat_lit 105,nat_lit 115]⟩⟩
noncomputable def s52 : Str := ⟨⟨[nat_lit 78,nat_lit 111,nat_lit 116,nat_lit 73,nat_lit 109,nat_lit 112,nat_lit 108,nat_lit 101,nat_lit 109,nat_lit 101,nat_lit 110,nat_lit 116,nat_lit 101,nat_lit 100]⟩⟩
noncomputable def s53 : Str := ⟨⟨[nat_lit 70,nat_lit 97,nat_lit 108,nat_lit 115,nat_lit 101]⟩⟩
noncomputable def s54 : Str := ⟨⟨[nat_lit 84,nat_lit 114,nat_lit 117,nat_lit 101]⟩⟩
noncomputable def s55 : Str := ⟨⟨[nat_lit 98,nat_lit 111,nat_lit 111,nat_lit 108]⟩⟩
noncomputable def s56 : Str := ⟨⟨[nat_lit 109,nat_lit 101,nat_lit 109,nat_lit 111,nat_lit 114,nat_lit 121,nat_lit 118,nat_lit 105,nat_lit 101,nat_lit 119]⟩⟩
noncomputable def s57 : Str := ⟨⟨[nat_lit 98,nat_lit 121,nat_lit 116,nat_lit 101,nat_lit 97,nat_lit 114,nat_lit 114,nat_lit 97,nat_lit 121]⟩⟩
noncomputable def s58 : Str := ⟨⟨[nat_lit 98,nat_lit 121,nat_lit 116,nat_lit 101,nat_lit 115]⟩⟩
noncomputable def s59 : Str := ⟨⟨[nat_lit 99,nat_lit 108,nat_lit 97,nat_lit 115,nat_lit 115,nat_lit 109,nat_lit 101,nat_lit 116,nat_lit 104,nat_lit 111,nat_lit 100]⟩⟩
noncomputable def s60 : Str := ⟨⟨[nat_lit 99,nat_lit 111,nat_lit 109,nat_lit 112,nat_lit 108,nat_lit 101,nat_lit 120]⟩⟩
noncomputable def s61 : Str := ⟨⟨[nat_lit 100,nat_lit 105,nat_lit 99,nat_lit 116]⟩⟩
noncomputable def s62 : Str := ⟨⟨[nat_lit 101,nat_lit 110,nat_lit 117,nat_lit 109,nat_lit 101,nat_lit 114,nat_lit 97,nat_lit 116,nat_lit 101]⟩⟩
noncomputable def s63 : Str := ⟨⟨[nat_lit 102,nat_lit 105,nat_lit 108,nat_lit 116,nat_lit 101,nat_lit 114]⟩⟩
noncomputable def s64 : Str := ⟨⟨[nat_lit 102,nat_lit 108,nat_lit 111,nat_lit 97,nat_lit 116]⟩⟩
noncomputable def s65 : Str := ⟨⟨[nat_lit 102,nat_lit 114,nat_lit 111,nat_lit 122,nat_lit 101,nat_lit 110,nat_lit 115,nat_lit 101,nat_lit 116]⟩⟩
noncomputable def s66 : Str := ⟨⟨[nat_lit 112,nat_lit 114,nat_lit 111,nat_lit 112,nat_lit 101,nat_lit 114,nat_lit 116,nat_lit 121]⟩⟩
noncomputable def s67 : Str := ⟨⟨[nat_lit 105,nat_lit 110,nat_lit 116]⟩⟩
noncomputable def s68 : Str := ⟨⟨[nat_lit 108,nat_lit 105,nat_lit 115,nat_lit 116]⟩⟩
noncomputable def s69 : Str := ⟨⟨[nat_lit 109,nat_lit 97,nat_lit 112]⟩⟩
noncomputable def s70 : Str := ⟨⟨[nat_lit 111,nat_lit 98,nat_lit 106,nat_lit 101,nat_lit 99,nat_lit 116]⟩⟩
noncomputable def s71 : Str := ⟨⟨[nat_lit 114,nat_lit 97,nat_lit 110,nat_lit 103,nat_lit 101]⟩⟩
noncomputable def s72 : Str := ⟨⟨[nat_lit 114,nat_lit 101,nat_lit 118,nat_lit 101,nat_lit 114,nat_lit 115,nat_lit 101,nat_lit 100]⟩⟩
noncomputable def s73 : Str := ⟨⟨[nat_lit 115,nat_lit 101,nat_lit 116]⟩⟩
noncomputable def s74 : Str := ⟨⟨[nat_lit 115,nat_lit 108,nat_lit 105,nat_lit 99,nat_lit 101]⟩⟩
noncomputable def s75 : Str := ⟨⟨[nat_lit 115,nat_lit 116,nat_lit 97,nat_lit 116,nat_lit 105,nat_lit 99,nat_lit 109,nat_lit 101,nat_lit 116,nat_lit 104,nat_lit 111,nat_lit 100]⟩⟩
noncomputable def s76 : Str := ⟨⟨[nat_lit 115,nat_lit 116,nat_lit 114]⟩⟩
noncomputable def s77 : Str := ⟨⟨[nat_lit 115,nat_lit 117,nat_lit 112,nat_lit 101,nat_lit 114]⟩⟩
noncomputable def s78 : Str := ⟨⟨[nat_lit 116,nat_lit 117,nat_lit 112,nat_lit 108,nat_lit 101]⟩⟩
noncomputable def s79 : Str := ⟨⟨[nat_lit 116,nat_lit 121,nat_lit 112,nat_lit 101]⟩⟩
noncomputable def s80 : Str := ⟨⟨[nat_lit 122,nat_lit 105,nat_lit 112]⟩⟩
noncomputable def s81 : Str := ⟨⟨[nat_lit 95,nat_lit 95,nat_lit 100,nat_lit 101,nat_lit 98,nat_lit 117,nat_lit 103,nat_lit 95,nat_lit 95]⟩⟩
noncomputable def s82 : Str := ⟨⟨[nat_lit 66,nat_lit 97,nat_lit 115,nat_lit 101,nat_lit 69,nat_lit 120,nat_lit 99,nat_lit 101,nat_lit 112,nat_lit 116,nat_lit 105,nat_lit 111,nat_lit 110]⟩⟩
noncomputable def s83 : Str := ⟨⟨[nat_lit 66,nat_lit 97,nat_lit 115,nat_lit 101,nat_lit 69,nat_lit 120,nat_lit 99,nat_lit 101,nat_lit 112,nat_lit 116,nat_lit 105,nat_lit 111,nat_lit 110,nat_lit 71,nat_lit 114,nat_lit 111,nat_lit 117,nat_lit 112]⟩⟩
noncomputable def s84 : Str := ⟨⟨[nat_lit 69,nat_lit 120,nat_lit 99,nat_lit 101,nat_lit 112,nat_lit 116,nat_lit 105,nat_lit 111,nat_lit 110]⟩⟩
noncomputable def s85 : Str := ⟨⟨[nat_lit 71,nat_lit 101,nat_lit 110,nat_lit 101,nat_lit 114,nat_lit 97,nat_lit 116,nat_lit 111,nat_lit 114,nat_lit 69,nat_lit 120,nat_lit 105,nat_lit 116]⟩⟩
noncomputable def s86 : Str := ⟨⟨[nat_lit 75,nat_lit 101,nat_lit 121,nat_lit 98,nat_lit 111,nat_lit 97,nat_lit 114,nat_lit 100,nat_lit 73,nat_lit 110,nat_lit 116,nat_lit 101,nat_lit 114,nat_lit 114,nat_lit 117,nat_lit 112,nat_lit 116]⟩⟩
noncomputable def s87 : Str := ⟨⟨[nat_lit 83,nat_lit 121,nat_lit 115,nat_lit 116,nat_lit 101,nat_lit 109,nat_lit 69,nat_lit 120,nat_lit 105,nat_lit 116]⟩⟩
noncomputable def s88 : Str := ⟨⟨[nat_lit 65,nat_lit 114,nat_lit 105,nat_lit 116,nat_lit 104,nat_lit 109,nat_lit 101,nat_lit 116,nat_lit 105,nat_lit 99,nat_lit 69,nat_lit 114,nat_lit 114,nat_lit 111,nat_lit 114]⟩⟩
noncomputable def s89 : Str := ⟨⟨[nat_lit 65,nat_lit 115,nat_lit 115,nat_lit 101,nat_lit 114,nat_lit 116,nat_lit 105,nat_lit 111,nat_lit 110,nat_lit 69,nat_lit 114,nat_lit 114,nat_lit 111,nat_lit 114]⟩⟩
noncomputable def s90 : Str := ⟨⟨[nat_lit 65,nat_lit 116,nat_lit 116,nat_lit 114,nat_lit 105,nat_lit 98,nat_lit 117,nat_lit 116,nat_lit 101,nat_lit 69,nat_lit 114,nat_lit 114,nat_lit 111,nat_lit 114]⟩⟩
noncomputable def s91 : Str := ⟨⟨[nat_lit 66,nat_lit 117,nat_lit 102,nat_lit 102,nat_lit 101,nat_lit 114,nat_lit 69,nat_lit 114,nat_lit 114,nat_lit 111,nat_lit 114]⟩⟩
noncomputable def s92 : Str := ⟨⟨[nat_lit 69,nat_lit 79,nat_lit 70,nat_lit 69,nat_lit 114,nat_lit 114,nat_lit 111,nat_lit 114]⟩⟩
noncomputable def s93 : Str := ⟨⟨[nat_lit 73,nat_lit 109,nat_lit 112,nat_lit 111,nat_lit 114,nat_lit 116,nat_lit 69,nat_lit 114,nat_lit 114,nat_lit 111,nat_lit 114]⟩⟩
noncomputable def s94 : Str := ⟨⟨[nat_lit 76,nat_lit 111,nat_lit 111,nat_lit 107,nat_lit 117,nat_lit 112,nat_lit 69,nat_lit 114,nat_lit 114,nat_lit 111,nat_lit 114]⟩⟩
noncomputable def s95 : Str := ⟨⟨[nat_lit 77,nat_lit 101,nat_lit 109,nat_lit 111,nat_lit 114,nat_lit 121,nat_lit 69,nat_lit 114,nat_lit 114,nat_lit 111,nat_lit 114]⟩⟩
noncomputable def s96 : Str := ⟨⟨[nat_lit 78,nat_lit 97,nat_lit 109,nat_lit 101,nat_lit 69,nat_lit 114,nat_lit 114,nat_lit 111,nat_lit 114]⟩⟩
noncomputable def s97 : Str := ⟨⟨[nat_lit 79,nat_lit 83,nat_lit 69,nat_lit 114,nat_lit 114,nat_lit 111,nat_lit 114]⟩⟩
noncomputable def s98 : Str := ⟨⟨[nat_lit 82,nat_lit 101,nat_lit 102,nat_lit 101,nat_lit 114,nat_lit 101,nat_lit 110,nat_lit 99,nat_lit 101,nat_lit 69,nat_lit 114,nat_lit 114,nat_lit 111,nat_lit 114]⟩⟩
noncomputable def s99 : Str := ⟨⟨[nat_lit 82,nat_lit 117,nat_lit 110,nat_lit 116,nat_lit 105,nat_lit 109,nat_lit 101,nat_lit 69,nat_lit 114,nat_lit 114,nat_lit 111,nat_lit 114]⟩⟩
noncomputable def s100 : Str := ⟨⟨[nat_lit 83,nat_lit 116,nat_lit 111,nat_lit 112,nat_lit 65,nat_lit 115,nat_lit 121,nat_lit 110,nat_lit 99,nat_lit 73,nat_lit 116,nat_lit 101,nat_lit 114,nat_lit 97,nat_lit 116,nat_lit 105,nat_lit 111,nat_lit 110]⟩⟩
noncomputable def s101 : Str := ⟨⟨[nat_lit 83,nat_lit 116,nat_lit 111,nat_lit 112,nat_lit 73,nat_lit 116,nat_lit 101,nat_lit 114,nat_lit 97,nat_lit 116,nat_lit 105,nat_lit 111,nat_lit 110]⟩⟩
noncomputable def s102 : Str := ⟨⟨[nat_lit 83,nat_lit 121,nat_lit 110,nat_lit 116,nat_lit 97,nat_lit 120,nat_lit 69,nat_lit 114,nat_lit 114,nat_lit 111,nat_lit 114]⟩⟩
noncomputable def s103 : Str := ⟨⟨[nat_lit 83,nat_lit 121,nat_lit 115,nat_lit 116,nat_lit 101,nat_lit 109,nat_lit 69,nat_lit 114,nat_lit 114,nat_lit 111,nat_lit 114]⟩⟩
noncomputable def s104 : Str := ⟨⟨[nat_lit 84,nat_lit 121,nat_lit 112,nat_lit 101,nat_lit 69,nat_lit 114,nat_lit 114,nat_lit 111,nat_lit 114]⟩⟩
noncomputable def s105 : Str := ⟨⟨[nat_lit 86,nat_lit 97,nat_lit 108,nat_lit 117,nat_lit 101,nat_lit 69,nat_lit 114,nat_lit 114,nat_lit 111,nat_lit 114]⟩⟩
noncomputable def s106 : Str := ⟨⟨[nat_lit 87,nat_lit 97,nat_lit 114,nat_lit 110,nat_lit 105,nat_lit 110,nat_lit 103]⟩⟩
noncomputable def s107 : Str := ⟨⟨[nat_lit 70,nat_lit 108,nat_lit 111,nat_lit 97,nat_lit 116,nat_lit 105,nat_lit 110,nat_lit 103,nat_lit 80,nat_lit 111,nat_lit 105,nat_lit 110,nat_lit 116,nat_lit 69,nat_lit 114,nat_lit 114,nat_lit 111,nat_lit 114]⟩⟩
noncomputable def s108 : Str := ⟨⟨[nat_lit 79,nat_lit 118,nat_lit 101,nat_lit 114,nat_lit 102,nat_lit 108,nat_lit 111,nat_lit 119,nat_lit 69,nat_lit 114,nat_lit 114,nat_lit 111,nat_lit 114]⟩⟩
noncomputable def s109 : Str := ⟨⟨[nat_lit 90,nat_lit 101,nat_lit 114,nat_lit 111,nat_lit 68,nat_lit 105,nat_lit 118,nat_lit 105,nat_lit 115,nat_lit 105,nat_lit 111,nat_lit 110,nat_lit 69,nat_lit 114,nat_lit 114,nat_lit 111,nat_lit 114]⟩⟩
noncomputable def s110 : Str := ⟨⟨[nat_lit 66,nat_lit 121,nat_lit 116,nat_lit 101,nat_lit 115,nat_lit 87,nat_lit 97,nat_lit 114,nat_lit 110,nat_lit 105,nat_lit 110,nat_lit 103]⟩⟩
noncomputable def s111 : Str := ⟨⟨[nat_lit 68,nat_lit 101,nat_lit 112,nat_lit 114,nat_lit 101,nat_lit 99,nat_lit 97,nat_lit 116,nat_lit 105,nat_lit 111,nat_lit 110,nat_lit 87,nat_lit 97,nat_lit 114,nat_lit 110,nat_lit 105,nat_lit 110,nat_lit 103]⟩⟩
noncomputable def s112 : Str := ⟨⟨[nat_lit 69,nat_lit 110,nat_lit 99,nat_lit 111,nat_lit 100,nat_lit 105,nat_lit 110,nat_lit 103,nat_lit 87,nat_lit 97,nat_lit 114,nat_lit 110,nat_lit 105,nat_lit 110,nat_lit 103]⟩⟩
noncomputable def s113 : Str := ⟨⟨[nat_lit 70,nat_lit 117,nat_lit 116,nat_lit 117,nat_lit 114,nat_lit 101,nat_lit 87,nat_lit 97,nat_lit 114,nat_lit 110,nat_lit 105,nat_lit 110,nat_lit 103]⟩⟩
noncomputable def s114 : Str := ⟨⟨[nat_lit 73,nat_lit 109,nat_lit 112,nat_lit 111,nat_lit 114,nat_lit 116,nat_lit 87,nat_lit 97,nat_lit 114,nat_lit 110,nat_lit 105,nat_lit 110,nat_lit 103]⟩⟩
noncomputable def s115 : Str := ⟨⟨[nat_lit 80,nat_lit 101,nat_lit 110,nat_lit 100,nat_lit 105,nat_lit 110,nat_lit 103,nat_lit 68,nat_lit 101,nat_lit 112,nat_lit 114,nat_lit 101,nat_lit 99,nat_lit 97,nat_lit 116,nat_lit 105,nat_lit 111,nat_lit 110,nat_lit 87,nat_lit 97,nat_lit 114,nat_lit 110,nat_lit 105,nat_lit 110,nat_lit 103]⟩⟩
noncomputable def s116 : Str := ⟨⟨[nat_lit 82,nat_lit 101,nat_lit 115,nat_lit 111,nat_lit 117,nat_lit 114,nat_lit 99,nat_lit 101,nat_lit 87,nat_lit 97,nat_lit 114,nat_lit 110,nat_lit 105,nat_lit 110,nat_lit 103]⟩⟩
noncomputable def s117 : Str := ⟨⟨[nat_lit 82,nat_lit 117,nat_lit 110,nat_lit 116,nat_lit 105,nat_lit 109,nat_lit 101,nat_lit 87,nat_lit 97,nat_lit 114,nat_lit 110,nat_lit 105,nat_lit 110,nat_lit 103]⟩⟩
noncomputable def s118 : Str := ⟨⟨[nat_lit 83,nat_lit 121,nat_lit 110,nat_lit 116,nat_lit 97,nat_lit 120,nat_lit 87,nat_lit 97,nat_lit 114,nat_lit 110,nat_lit 105,nat_lit 110,nat_lit 103]⟩⟩
noncomputable def s119 : Str := ⟨⟨[nat_lit 85,nat_lit 110,nat_lit 105,nat_lit 99,nat_lit 111,nat_lit 100,nat_lit 101,nat_lit 87,nat_lit 97,nat_lit 114,nat_lit 110,nat_lit 105,nat_lit 110,nat_lit 103]⟩⟩
noncomputable def s120 : Str := ⟨⟨[nat_lit 85,nat_lit 115,nat_lit 101,nat_lit 114,nat_lit 87,nat_lit 97,nat_lit 114,nat_lit 110,nat_lit 105,nat_lit 110,nat_lit 103]⟩⟩
noncomputable def s121 : Str := ⟨⟨[nat_lit 66,nat_lit 108,nat_lit 111,nat_lit 99,nat_lit 107,nat_lit 105,nat_lit 110,nat_lit 103,nat_lit 73,nat_lit 79,nat_lit 69,nat_lit 114,nat_lit 114,nat_lit 111,nat_lit 114]⟩⟩
noncomputable def s122 : Str := ⟨⟨[nat_lit 67,nat_lit 104,nat_lit 105,nat_lit 108,nat_lit 100,nat_lit 80,nat_lit 114,nat_lit 111,nat_lit 99,nat_lit 101,nat_lit 115,nat_lit 115,nat_lit 69,nat_lit 114,nat_lit 114,nat_lit 111,nat_lit 114]⟩⟩
noncomputable def s123 : Str := ⟨⟨[nat_lit 67,nat_lit 111,nat_lit 110,nat_lit 110,nat_lit 101,nat_lit 99,nat_lit 116,nat_lit 105,nat_lit 111,nat_lit 110,nat_lit 69,nat_lit 114,nat_lit 114,nat_lit 111,nat_lit 114]⟩⟩
noncomputable def s124 : Str := ⟨⟨[nat_lit 70,nat_lit 105,nat_lit 108,nat_lit 101,nat_lit 69,nat_lit 120,nat_lit 105,nat_lit 115,nat_lit 116,nat_lit 115,nat_lit 69,nat_lit 114,nat_lit 114,nat_lit 111,nat_lit 114]⟩⟩
noncomputable def s125 : Str := ⟨⟨[nat_lit 70,nat_lit 105,nat_lit 108,nat_lit 101,nat_lit 78,nat_lit 111,nat_lit 116,nat_lit 70,nat_lit 111,nat_lit 117,nat_lit 110,nat_lit 100,nat_lit 69,nat_lit 114,nat_lit 114,nat_lit 111,nat_lit 114]⟩⟩
noncomputable def s126 : Str := ⟨⟨[nat_lit 73,nat_lit 110,nat_lit 116,nat_lit 101,nat_lit 114,nat_lit 114,nat_lit 117,nat_lit 112,nat_lit 116,nat_lit 101,nat_lit 100,nat_lit 69,nat_lit 114,nat_lit 114,nat_lit 111,nat_lit 114]⟩⟩
noncomputable def s127 : Str := ⟨⟨[nat_lit 73,nat_lit 115,nat_lit 65,nat_lit 68,nat_lit 105,nat_lit 114,nat_lit 101,nat_lit 99,nat_lit 116,nat_lit 111,nat_lit 114,nat_lit 121,nat_lit 69,nat_lit 114,nat_lit 114,nat_lit 111,nat_lit 114]⟩⟩
noncomputable def s128 : Str := ⟨⟨[nat_lit 78,nat_lit 111,nat_lit 116,nat_lit 65,nat_lit 68,nat_lit 105,nat_lit 114,nat_lit 101,nat_lit 99,nat_lit 116,nat_lit 111,nat_lit 114,nat_lit 121,nat_lit 69,nat_lit 114,nat_lit 114,nat_lit 111,nat_lit 114]⟩⟩
noncomputable def s129 : Str := ⟨⟨[nat_lit 80,nat_lit 101,nat_lit 114,nat_lit 109,nat_lit 105,nat_lit 115,nat_lit 115,nat_lit 105,nat_lit 111,nat_lit 110,nat_lit 69,nat_lit 114,nat_lit 114,nat_lit 111,nat_lit 114]⟩⟩
noncomputable def s130 : Str := ⟨⟨[nat_lit 80,nat_lit 114,nat_lit 111,nat_lit 99,nat_lit 101,nat_lit 115,nat_lit 115,nat_lit 76,nat_lit 111,nat_lit 111,nat_lit 107,nat_lit 117,nat_lit 112,nat_lit 69,nat_lit 114,nat_lit 114,nat_lit 111,nat_lit 114]⟩⟩
noncomputable def s131 : Str := ⟨⟨[nat_lit 84,nat_lit 105,nat_lit 109,nat_lit 101,nat_lit 111,nat_lit 117,nat_lit 116,nat_lit 69,nat_lit 114,nat_lit 114,nat_lit 111,nat_lit 114]⟩⟩
noncomputable def s132 : Str := ⟨⟨[nat_lit 73,nat_lit 110,nat_lit 100,nat_lit 101,nat_lit 110,nat_lit 116,nat_lit 97,nat_lit 116,nat_lit 105,nat_lit 111,nat_lit 110,nat_lit 69,nat_lit 114,nat_lit 114,nat_lit 111,nat_lit 114]⟩⟩
noncomputable def s133 : Str := ⟨⟨[nat_lit 95,nat_lit 73,nat_lit 110,nat_lit 99,nat_lit 111,nat_lit 109,nat_lit 112,nat_lit 108,nat_lit 101,nat_lit 116,nat_lit 101,nat_lit 73,nat_lit 110,nat_lit 112,nat_lit 117,nat_lit 116,nat_lit 69,nat_lit 114,nat_lit 114,nat_lit 111,nat_lit 114]⟩⟩
noncomputable def s134 : Str := ⟨⟨[nat_lit 73,nat_lit 110,nat_lit 100,nat_lit 101,nat_lit 120,nat_lit 69,nat_lit 114,nat_lit 114,nat_lit 111,nat_lit 114]⟩⟩
noncomputable def s135 : Str := ⟨⟨[nat_lit 75,nat_lit 101,nat_lit 121,nat_lit 69,nat_lit 114,nat_lit 114,nat_lit 111,nat_lit 114]⟩⟩
noncomputable def s136 : Str := ⟨⟨[nat_lit 77,nat_lit 111,nat_lit 100,nat_lit 117,nat_lit 108,nat_lit 101,nat_lit 78,nat_lit 111,nat_lit 116,nat_lit 70,nat_lit 111,nat_lit 117,nat_lit 110,nat_lit 100,nat_lit 69,nat_lit 114,nat_lit 114,nat_lit 111,nat_lit 114]⟩⟩
noncomputable def s137 : Str := ⟨⟨[nat_lit 78,nat_lit 111,nat_lit 116,nat_lit 73,nat_lit 109,nat_lit 112,nat_lit 108,nat_lit 101,nat_lit 109,nat_lit 101,nat_lit 110,nat_lit 116,nat_lit 101,nat_lit 100,nat_lit 69,nat_lit 114,nat_lit 114,nat_lit 111,nat_lit 114]⟩⟩
noncomputable def s138 : Str := ⟨⟨[nat_lit 80,nat_lit 121,nat_lit 116,nat_lit 104,nat_lit 111,nat_lit 110,nat_lit 70,nat_lit 105,nat_lit 110,nat_lit 97,nat_lit 108,nat_lit 105,nat_lit 122,nat_lit 97,nat_lit 116,nat_lit 105,nat_lit 111,nat_lit 110,nat_lit 69,nat_lit 114,nat_lit 114,nat_lit 111,nat_lit 114]⟩⟩
noncomputable def s139 : Str := ⟨⟨[nat_lit 82,nat_lit 101,nat_lit 99,nat_lit 117,nat_lit 114,nat_lit 115,nat_lit 105,nat_lit 111,nat_lit 110,nat_lit 69,nat_lit 114,nat_lit 114,nat_lit 111,nat_lit 114]⟩⟩
noncomputable def s140 : Str := ⟨⟨[nat_lit 85,nat_lit 110,nat_lit 98,nat_lit 111,nat_lit 117,nat_lit 110,nat_lit 100,nat_lit 76,nat_lit 111,nat_lit 99,nat_lit 97,nat_lit 108,nat_lit 69,nat_lit 114,nat_lit 114,nat_lit 111,nat_lit 114]⟩⟩
noncomputable def s141 : Str := ⟨⟨[nat_lit 85,nat_lit 110,nat_lit 105,nat_lit 99,nat_lit 111,nat_lit 100,nat_lit 101,nat_lit 69,nat_lit 114,nat_lit 114,nat_lit 111,nat_lit 114]⟩⟩
noncomputable def s142 : Str := ⟨⟨[nat_lit 66,nat_lit 114,nat_lit 111,nat_lit 107,nat_lit 101,nat_lit 110,nat_lit 80,nat_lit 105,nat_lit 112,nat_lit 101,nat_lit 69,nat_lit 114,nat_lit 114,nat_lit 111,nat_lit 114]⟩⟩
noncomputable def s143 : Str := ⟨⟨[nat_lit 67,nat_lit 111,nat_lit 110,nat_lit 110,nat_lit 101,nat_lit 99,nat_lit 116,nat_lit 105,nat_lit 111,nat_lit 110,nat_lit 65,nat_lit 98,nat_lit 111,nat_lit 114,nat_lit 116,nat_lit 101,nat_lit 100,nat_lit 69,nat_lit 114,nat_lit 114,nat_lit 111,nat_lit 114]⟩⟩
noncomputable def s144 : Str := ⟨⟨[nat_lit 67,nat_lit 111,nat_lit 110,nat_lit 110,nat_lit 101,nat_lit 99,nat_lit 116,nat_lit 105,nat_lit 111,nat_lit 110,nat_lit 82,nat_lit 101,nat_lit 102,nat_lit 117,nat_lit 115,nat_lit 101,nat_lit 100,nat_lit 69,nat_lit 114,nat_lit 114,nat_lit 111,nat_lit 114]⟩⟩
noncomputable def s145 : Str := ⟨⟨[nat_lit 67,nat_lit 111,nat_lit 110,nat_lit 110,nat_lit 101,nat_lit 99,nat_lit 116,nat_lit 105,nat_lit 111,nat_lit 110,nat_lit 82,nat_lit 101,nat_lit 115,nat_lit 101,nat_lit 116,nat_lit 69,nat_lit 114,nat_lit 114,nat_lit 111,nat_lit 114]⟩⟩
noncomputable def s146 : Str := ⟨⟨[nat_lit 84,nat_lit 97,nat_lit 98,nat_lit 69,nat_lit 114,nat_lit 114,nat_lit 111,nat_lit 114]⟩⟩
noncomputable def s147 : Str := ⟨⟨[nat_lit 85,nat_lit 110,nat_lit 105,nat_lit 99,nat_lit 111,nat_lit 100,nat_lit 101,nat_lit 68,nat_lit 101,nat_lit 99,nat_lit 111,nat_lit 100,nat_lit 101,nat_lit 69,nat_lit 114,nat_lit 114,nat_lit 111,nat_lit 114]⟩⟩
noncomputable def s148 : Str := ⟨⟨[nat_lit 85,nat_lit 110,nat_lit 105,nat_lit 99,nat_lit 111,nat_lit 100,nat_lit 101,nat_lit 69,nat_lit 110,nat_lit 99,nat_lit 111,nat_lit 100,nat_lit 101,nat_lit 69,nat_lit 114,nat_lit 114,nat_lit 111,nat_lit 114]⟩⟩
noncomputable def s149 : Str := ⟨⟨[nat_lit 85,nat_lit 110,nat_lit 105,nat_lit 99,nat_lit 111,nat_lit 100,nat_lit 101,nat_lit 84,nat_lit 114,nat_lit 97,nat_lit 110,nat_lit 115,nat_lit 108,nat_lit 97,nat_lit 116,nat_lit 101,nat_lit 69,nat_lit 114,nat_lit 114,nat_lit 111,nat_lit 114]⟩⟩
noncomputable def s150 : Str := ⟨⟨[nat_lit 69,nat_lit 120,nat_lit 99,nat_lit 101,nat_lit 112,nat_lit 116,nat_lit 105,nat_lit 111,nat_lit 110,nat_lit 71,nat_lit 114,nat_lit 111,nat_lit 117,nat_lit 112]⟩⟩
noncomputable def s151 : Str := ⟨⟨[nat_lit 69,nat_lit 110,nat_lit 118,nat_lit 105,nat_lit 114,nat_lit 111,nat_lit 110,nat_lit 109,nat_lit 101,nat_lit 110,nat_lit 116,nat_lit 69,nat_lit 114,nat_lit 114,nat_lit 111,nat_lit 114]⟩⟩
noncomputable def s152 : Str := ⟨⟨[nat_lit 73,nat_lit 79,nat_lit 69,nat_lit 114,nat_lit 114,nat_lit 111,nat_lit 114]⟩⟩
noncomputable def s153 : Str := ⟨⟨[nat_lit 111,nat_lit 112,nat_lit 101,nat_lit 110]⟩⟩
noncomputable def s154 : Str := ⟨⟨[nat_lit 113,nat_lit 117,nat_lit 105,nat_lit 116]⟩⟩
noncomputable def s155 : Str := ⟨⟨[nat_lit 101,nat_lit 120,nat_lit 105,nat_lit 116]⟩⟩
noncomputable def s156 : Str := ⟨⟨[nat_lit 99,nat_lit 111,nat_lit 112,nat_lit 121,nat_lit 114,nat_lit 105,nat_lit 103,nat_lit 104,nat_lit 116]⟩⟩
noncomputable def s157 : Str := ⟨⟨[nat_lit 99,nat_lit 114,nat_lit 101,nat_lit 100,nat_lit 105,nat_lit 116,nat_lit 115]⟩⟩
noncomputable def s158 : Str := ⟨⟨[nat_lit 108,nat_lit 105,nat_lit 99,nat_lit 101,nat_lit 110,nat_lit 115,nat_lit 101]⟩⟩
noncomputable def s159 : Str := ⟨⟨[nat_lit 104,nat_lit 101,nat_lit 108,nat_lit 112]⟩⟩
noncomputable def s160 : Str := ⟨⟨[nat_lit 95,nat_lit 95,nat_lit 109,nat_lit 97,nat_lit 105,nat_lit 110,nat_lit 95,nat_lit 95]⟩⟩
noncomputable def s161 : Str := ⟨⟨[nat_lit 95,nat_lit 95,nat_lit 97,nat_lit 110,nat_lit 110,nat_lit 111,nat_lit 116,nat_lit 97,nat_lit 116,nat_lit 105,nat_lit 111,nat_lit 110,nat_lit 115,nat_lit 95,nat_lit 95]⟩⟩
noncomputable def s162 : Str := ⟨⟨[nat_lit 95,nat_lit 95,nat_lit 98,nat_lit 117,nat_lit 105,nat_lit 108,nat_lit 116,nat_lit 105,nat_lit 110,nat_lit 115,nat_lit 95,nat_lit 95]⟩⟩
noncomputable def s163 : Str := ⟨⟨[nat_lit 95,nat_lit 95,nat_lit 102,nat_lit 105,nat_lit 108,nat_lit 101,nat_lit 95,nat_lit 95]⟩⟩
noncomputable def s164 : Str := ⟨⟨[nat_lit 47,nat_lit 99,nat_lit 108,nat_lit 97,nat_lit 105,nat_lit 109,nat_lit 47,nat_lit 99,nat_lit 117,nat_lit 116,nat_lit 46,nat_lit 112,nat_lit 121]⟩⟩
noncomputable def s165 : Str := ⟨⟨[nat_lit 95,nat_lit 95,nat_lit 99,nat_lit 97,nat_lit 99,nat_lit 104,nat_lit 101,nat_lit 100,nat_lit 95,nat_lit 95]⟩⟩
noncomputable def s166 : Str := ⟨⟨[nat_lit 60,nat_lit 109,nat_lit 111,nat_lit 100,nat_lit 117,nat_lit 108,nat_lit 101,nat_lit 62]⟩⟩
noncomputable def s167 : Str := ⟨⟨[nat_lit 116,nat_lit 121,nat_lit 112,nat_lit 101,nat_lit 46,nat_lit 95,nat_lit 95,nat_lit 115,nat_lit 117,nat_lit 98,nat_lit 99,nat_lit 108,nat_lit 97,nat_lit 115,nat_lit 115,nat_lit 101,nat_lit 115,nat_lit 95,nat_lit 95,nat_lit 46,nat_lit 69,nat_lit 120,nat_lit 99,nat_lit 101,nat_lit 112,nat_lit 116,nat_lit 105,nat_lit 111,nat_lit 110,nat_lit 46,nat_lit 48]⟩⟩
noncomputable def s168 : Str := ⟨⟨[nat_lit 116,nat_lit 121,nat_lit 112,nat_lit 101,nat_lit 46,nat_lit 95,nat_lit 95,nat_lit 115,nat_lit 117,nat_lit 98,nat_lit 99,nat_lit 108,nat_lit 97,nat_lit 115,nat_lit 115,nat_lit 101,nat_lit 115,nat_lit 95,nat_lit 95,nat_lit 46,nat_lit 69,nat_lit 120,nat_lit 99,nat_lit 101,nat_lit 112,nat_lit 116,nat_lit 105,nat_lit 111,nat_lit 110,nat_lit 46,nat_lit 110]⟩⟩
noncomputable def s169 : Str := ⟨⟨[nat_lit 97,nat_lit 100,nat_lit 97,nat_lit 99,nat_lit 111,nat_lit 114,nat_lit 101,nat_lit 46,nat_lit 111,nat_lit 112,nat_lit 115]⟩⟩
noncomputable def s170 : Str := ⟨⟨[nat_lit 65,nat_lit 100,nat_lit 97,nat_lit 69,nat_lit 114,nat_lit 114,nat_lit 111,nat_lit 114]⟩⟩
noncomputable def s171 : Str := ⟨⟨[nat_lit 66,nat_lit 97,nat_lit 100,nat_lit 67,nat_lit 111,nat_lit 100,nat_lit 101]⟩⟩
noncomputable def s172 : Str := ⟨⟨[nat_lit 95,nat_lit 95,nat_lit 109,nat_lit 111,nat_lit 100,nat_lit 117,nat_lit 108,nat_lit 101,nat_lit 95,nat_lit 95]⟩⟩
noncomputable def s173 : Str := ⟨⟨[nat_lit 97,nat_lit 100,nat_lit 97,nat_lit 99,nat_lit 111,nat_lit 114,nat_lit 101,nat_lit 46,nat_lit 101,nat_lit 114,nat_lit 114,nat_lit 111,nat_lit 114,nat_lit 115]⟩⟩
noncomputable def s174 : Str := ⟨⟨[nat_lit 95,nat_lit 95,nat_lit 113,nat_lit 117,nat_lit 97,nat_lit 108,nat_lit 110,nat_lit 97,nat_lit 109,nat_lit 101,nat_lit 95,nat_lit 95]⟩⟩
noncomputable def s175 : Str := ⟨⟨[nat_lit 95,nat_lit 95,nat_lit 102,nat_lit 105,nat_lit 114,nat_lit 115,nat_lit 116,nat_lit 108,nat_lit 105,nat_lit 110,nat_lit 101,nat_lit 110,nat_lit 111,nat_lit 95,nat_lit 95]⟩⟩
noncomputable def s176 : Str := ⟨⟨[nat_lit 95,nat_lit 95,nat_lit 105,nat_lit 110,nat_lit 105,nat_lit 116,nat_lit 95,nat_lit 95]⟩⟩
noncomputable def s177 : Str := ⟨⟨[nat_lit 95,nat_lit 95,nat_lit 115,nat_lit 116,nat_lit 97,nat_lit 116,nat_lit 105,nat_lit 99,nat_lit 95,nat_lit 97,nat_lit 116,nat_lit 116,nat_lit 114,nat_lit 105,nat_lit 98,nat_lit 117,nat_lit 116,nat_lit 101,nat_lit 115,nat_lit 95,nat_lit 95]⟩⟩
noncomputable def s178 : Str := ⟨⟨[nat_lit 115,nat_lit 101,nat_lit 108,nat_lit 102]⟩⟩
noncomputable def s179 : Str := ⟨⟨[nat_lit 116,nat_lit 101,nat_lit 120,nat_lit 116]⟩⟩
noncomputable def s180 : Str := ⟨⟨[nat_lit 65,nat_lit 100,nat_lit 97,nat_lit 69,nat_lit 114,nat_lit 114,nat_lit 111,nat_lit 114,nat_lit 46,nat_lit 95,nat_lit 95,nat_lit 105,nat_lit 110,nat_lit 105,nat_lit 116,nat_lit 95,nat_lit 95]⟩⟩
noncomputable def s181 : Str := ⟨⟨[nat_lit 95,nat_lit 95,nat_lit 119,nat_lit 101,nat_lit 97,nat_lit 107,nat_lit 114,nat_lit 101,nat_lit 102,nat_lit 95,nat_lit 95]⟩⟩
noncomputable def s182 : Str := ⟨⟨[nat_lit 83,nat_lit 72,nat_lit 65,nat_lit 80,nat_lit 69,nat_lit 83]⟩⟩
noncomputable def s183 : Str := ⟨⟨[nat_lit 99,nat_lit 111,nat_lit 110,nat_lit 115,nat_lit 116]⟩⟩
noncomputable def s184 : Str := ⟨⟨[nat_lit 111,nat_lit 98,nat_lit 106]⟩⟩
noncomputable def s185 : Str := ⟨⟨[nat_lit 100,nat_lit 105,nat_lit 115,nat_lit 99]⟩⟩
noncomputable def s186 : Str := ⟨⟨[nat_lit 99,nat_lit 111,nat_lit 109,nat_lit 112]⟩⟩
noncomputable def s187 : Str := ⟨⟨[nat_lit 105,nat_lit 110,nat_lit 100,nat_lit 101,nat_lit 120]⟩⟩
noncomputable def s188 : Str := ⟨⟨[nat_lit 100,nat_lit 101,nat_lit 114,nat_lit 101,nat_lit 102]⟩⟩
noncomputable def s189 : Str := ⟨⟨[nat_lit 111,nat_lit 112]⟩⟩
noncomputable def s190 : Str := ⟨⟨[nat_lit 105,nat_lit 110]⟩⟩
noncomputable def s191 : Str := ⟨⟨[nat_lit 105,nat_lit 110,nat_lit 116,nat_lit 97,nat_lit 103]⟩⟩
noncomputable def s192 : Str := ⟨⟨[nat_lit 113,nat_lit 117,nat_lit 97,nat_lit 108]⟩⟩
noncomputable def s193 : Str := ⟨⟨[nat_lit 99,nat_lit 111,nat_lit 110,nat_lit 118]⟩⟩
noncomputable def s194 : Str := ⟨⟨[nat_lit 97,nat_lit 116,nat_lit 116,nat_lit 114,nat_lit 111,nat_lit 102]⟩⟩
noncomputable def s195 : Str := ⟨⟨[nat_lit 116,nat_lit 97,nat_lit 115,nat_lit 107,nat_lit 97,nat_lit 116,nat_lit 116,nat_lit 114]⟩⟩
noncomputable def s196 : Str := ⟨⟨[nat_lit 97,nat_lit 99,nat_lit 99,nat_lit 101,nat_lit 115,nat_lit 115,nat_lit 116,nat_lit 111]⟩⟩
noncomputable def s197 : Str := ⟨⟨[nat_lit 115,nat_lit 117,nat_lit 98,nat_lit 116,nat_lit 121,nat_lit 112,nat_lit 101]⟩⟩
noncomputable def s198 : Str := ⟨⟨[nat_lit 110,nat_lit 101,nat_lit 119]⟩⟩
noncomputable def s199 : Str := ⟨⟨[nat_lit 110,nat_lit 101,nat_lit 119,nat_lit 111,nat_lit 102]⟩⟩
noncomputable def s200 : Str := ⟨⟨[nat_lit 99,nat_lit 111,nat_lit 112,nat_lit 121]⟩⟩
noncomputable def s201 : Str := ⟨⟨[nat_lit 97,nat_lit 114,nat_lit 114,nat_lit 97,nat_lit 121,nat_lit 111,nat_lit 102]⟩⟩
noncomputable def s202 : Str := ⟨⟨[nat_lit 114,nat_lit 101,nat_lit 99,nat_lit 111,nat_lit 114,nat_lit 100,nat_lit 111,nat_lit 102]⟩⟩
noncomputable def s203 : Str := ⟨⟨[nat_lit 101,nat_lit 120,nat_lit 116,nat_lit 101,nat_lit 110,nat_lit 100,nat_lit 111,nat_lit 102]⟩⟩
noncomputable def s204 : Str := ⟨⟨[nat_lit 99,nat_lit 97,nat_lit 108,nat_lit 108,nat_lit 102]⟩⟩
noncomputable def s205 : Str := ⟨⟨[nat_lit 100,nat_lit 105,nat_lit 115,nat_lit 112,nat_lit 97,nat_lit 116,nat_lit 99,nat_lit 104,nat_lit 102]⟩⟩
noncomputable def s206 : Str := ⟨⟨[nat_lit 112,nat_lit 114,nat_lit 111,nat_lit 116,nat_lit 99,nat_lit 97,nat_lit 108,nat_lit 108]⟩⟩
noncomputable def s207 : Str := ⟨⟨[nat_lit 112,nat_lit 108,nat_lit 97,nat_lit 99,nat_lit 101]⟩⟩
noncomputable def s208 : Str := ⟨⟨[nat_lit 112,nat_lit 108,nat_lit 97,nat_lit 99,nat_lit 101,nat_lit 99,nat_lit 111,nat_lit 109,nat_lit 112]⟩⟩
noncomputable def s209 : Str := ⟨⟨[nat_lit 112,nat_lit 108,nat_lit 97,nat_lit 99,nat_lit 101,nat_lit 105,nat_lit 110,nat_lit 100,nat_lit 101,nat_lit 120]⟩⟩
noncomputable def s210 : Str := ⟨⟨[nat_lit 112,nat_lit 108,nat_lit 97,nat_lit 99,nat_lit 101,nat_lit 115,nat_lit 108,nat_lit 105,nat_lit 99,nat_lit 101]⟩⟩
noncomputable def s211 : Str := ⟨⟨[nat_lit 112,nat_lit 108,nat_lit 97,nat_lit 99,nat_lit 101,nat_lit 100,nat_lit 101,nat_lit 114,nat_lit 101,nat_lit 102]⟩⟩
noncomputable def s212 : Str := ⟨⟨[nat_lit 112,nat_lit 108,nat_lit 97,nat_lit 99,nat_lit 101,nat_lit 118,nat_lit 97,nat_lit 108,nat_lit 117,nat_lit 101]⟩⟩
noncomputable def s213 : Str := ⟨⟨[nat_lit 116,nat_lit 97,nat_lit 114,nat_lit 103,nat_lit 101,nat_lit 116]⟩⟩
noncomputable def s214 : Str := ⟨⟨[nat_lit 100,nat_lit 114,nat_lit 111,nat_lit 112]⟩⟩
noncomputable def s215 : Str := ⟨⟨[nat_lit 97,nat_lit 99,nat_lit 116,nat_lit 117,nat_lit 97,nat_lit 108]⟩⟩
noncomputable def s216 : Str := ⟨⟨[nat_lit 97,nat_lit 99,nat_lit 116,nat_lit 117,nat_lit 97,nat_lit 108,nat_lit 111,nat_lit 117,nat_lit 116]⟩⟩
noncomputable def s217 : Str := ⟨⟨[nat_lit 97,nat_lit 99,nat_lit 116,nat_lit 117,nat_lit 97,nat_lit 108,nat_lit 118,nat_lit 105,nat_lit 101,nat_lit 119]⟩⟩
noncomputable def s218 : Str := ⟨⟨[nat_lit 106,nat_lit 117,nat_lit 109,nat_lit 112]⟩⟩
noncomputable def s219 : Str := ⟨⟨[nat_lit 105,nat_lit 102,nat_lit 102,nat_lit 97,nat_lit 108,nat_lit 115,nat_lit 101]⟩⟩
noncomputable def s220 : Str := ⟨⟨[nat_lit 105,nat_lit 102,nat_lit 116,nat_lit 114,nat_lit 117,nat_lit 101]⟩⟩
noncomputable def s221 : Str := ⟨⟨[nat_lit 97,nat_lit 110,nat_lit 100,nat_lit 106,nat_lit 117,nat_lit 109,nat_lit 112]⟩⟩
noncomputable def s222 : Str := ⟨⟨[nat_lit 111,nat_lit 114,nat_lit 106,nat_lit 117,nat_lit 109,nat_lit 112]⟩⟩
noncomputable def s223 : Str := ⟨⟨[nat_lit 115,nat_lit 116,nat_lit 101,nat_lit 112]⟩⟩
noncomputable def s224 : Str := ⟨⟨[nat_lit 108,nat_lit 105,nat_lit 110,nat_lit 101]⟩⟩
noncomputable def s225 : Str := ⟨⟨[nat_lit 115,nat_lit 116,nat_lit 111,nat_lit 114,nat_lit 101]⟩⟩
noncomputable def s226 : Str := ⟨⟨[nat_lit 99,nat_lit 104,nat_lit 111,nat_lit 111,nat_lit 115,nat_lit 101]⟩⟩
noncomputable def s227 : Str := ⟨⟨[nat_lit 102,nat_lit 111,nat_lit 114,nat_lit 98,nat_lit 101,nat_lit 103,nat_lit 105,nat_lit 110]⟩⟩
noncomputable def s228 : Str := ⟨⟨[nat_lit 102,nat_lit 111,nat_lit 114,nat_lit 110,nat_lit 101,nat_lit 120,nat_lit 116]⟩⟩
noncomputable def s229 : Str := ⟨⟨[nat_lit 114,nat_lit 97,nat_lit 105,nat_lit 115,nat_lit 101]⟩⟩
noncomputable def s230 : Str := ⟨⟨[nat_lit 114,nat_lit 101,nat_lit 115,nat_lit 117,nat_lit 108,nat_lit 116]⟩⟩
noncomputable def s231 : Str := ⟨⟨[nat_lit 98,nat_lit 108,nat_lit 111,nat_lit 99,nat_lit 107]⟩⟩
noncomputable def s232 : Str := ⟨⟨[nat_lit 97,nat_lit 114,nat_lit 109]⟩⟩
noncomputable def s233 : Str := ⟨⟨[nat_lit 101,nat_lit 110,nat_lit 100,nat_lit 98,nat_lit 108,nat_lit 111,nat_lit 99,nat_lit 107]⟩⟩
noncomputable def s234 : Str := ⟨⟨[nat_lit 112,nat_lit 97,nat_lit 99,nat_lit 107]⟩⟩
noncomputable def s235 : Str := ⟨⟨[nat_lit 101,nat_lit 110,nat_lit 100,nat_lit 112,nat_lit 97,nat_lit 99,nat_lit 107]⟩⟩
noncomputable def s236 : Str := ⟨⟨[nat_lit 101,nat_lit 110,nat_lit 100,nat_lit 115,nat_lit 117,nat_lit 98]⟩⟩
noncomputable def s237 : Str := ⟨⟨[nat_lit 101,nat_lit 110,nat_lit 100,nat_lit 98,nat_lit 111,nat_lit 100,nat_lit 121]⟩⟩
noncomputable def s238 : Str := ⟨⟨[nat_lit 101,nat_lit 110,nat_lit 100,nat_lit 97,nat_lit 99,nat_lit 99,nat_lit 101,nat_lit 112,nat_lit 116]⟩⟩
noncomputable def s239 : Str := ⟨⟨[nat_lit 101,nat_lit 110,nat_lit 100,nat_lit 101,nat_lit 110,nat_lit 116,nat_lit 114,nat_lit 121]⟩⟩
noncomputable def s240 : Str := ⟨⟨[nat_lit 101,nat_lit 110,nat_lit 100,nat_lit 100,nat_lit 101,nat_lit 99,nat_lit 108,nat_lit 115]⟩⟩
noncomputable def s241 : Str := ⟨⟨[nat_lit 101,nat_lit 110,nat_lit 100,nat_lit 118,nat_lit 97,nat_lit 108,nat_lit 117,nat_lit 101]⟩⟩
noncomputable def s242 : Str := ⟨⟨[nat_lit 114,nat_lit 101,nat_lit 102,nat_lit 117,nat_lit 115,nat_lit 101]⟩⟩
noncomputable def s243 : Str := ⟨⟨[nat_lit 115,nat_lit 117,nat_lit 98]⟩⟩
noncomputable def s244 : Str := ⟨⟨[nat_lit 99,nat_lit 97,nat_lit 108,nat_lit 108,nat_lit 112]⟩⟩
noncomputable def s245 : Str := ⟨⟨[nat_lit 100,nat_lit 105,nat_lit 115,nat_lit 112,nat_lit 97,nat_lit 116,nat_lit 99,nat_lit 104,nat_lit 112]⟩⟩
noncomputable def s246 : Str := ⟨⟨[nat_lit 98,nat_lit 101,nat_lit 103,nat_lit 105,nat_lit 110,nat_lit 99,nat_lit 101,nat_lit 108,nat_lit 108]⟩⟩
noncomputable def s247 : Str := ⟨⟨[nat_lit 105,nat_lit 110,nat_lit 105,nat_lit 116,nat_lit 99,nat_lit 101,nat_lit 108,nat_lit 108]⟩⟩
noncomputable def s248 : Str := ⟨⟨[nat_lit 102,nat_lit 105,nat_lit 114,nat_lit 115,nat_lit 116,nat_lit 99,nat_lit 101,nat_lit 108,nat_lit 108]⟩⟩
noncomputable def s249 : Str := ⟨⟨[nat_lit 108,nat_lit 97,nat_lit 121,nat_lit 115,nat_lit 117,nat_lit 98,nat_lit 116,nat_lit 121,nat_lit 112,nat_lit 101]⟩⟩
noncomputable def s250 : Str := ⟨⟨[nat_lit 108,nat_lit 97,nat_lit 121,nat_lit 116,nat_lit 121,nat_lit 112,nat_lit 101]⟩⟩
noncomputable def s251 : Str := ⟨⟨[nat_lit 108,nat_lit 97,nat_lit 121,nat_lit 115,nat_lit 117,nat_lit 98]⟩⟩
noncomputable def s252 : Str := ⟨⟨[nat_lit 108,nat_lit 97,nat_lit 121,nat_lit 98,nat_lit 111,nat_lit 100,nat_lit 121]⟩⟩
noncomputable def s253 : Str := ⟨⟨[nat_lit 108,nat_lit 97,nat_lit 121,nat_lit 112,nat_lit 114,nat_lit 111,nat_lit 116]⟩⟩
noncomputable def s254 : Str := ⟨⟨[nat_lit 108,nat_lit 97,nat_lit 121,nat_lit 112,nat_lit 108,nat_lit 97,nat_lit 99,nat_lit 101]⟩⟩
noncomputable def s255 : Str := ⟨⟨[nat_lit 110,nat_lit 111,nat_lit 119,nat_lit 97,nat_lit 105,nat_lit 116]⟩⟩
noncomputable def s256 : Str := ⟨⟨[nat_lit 101,nat_lit 110,nat_lit 116,nat_lit 114,nat_lit 121,nat_lit 99,nat_lit 97,nat_lit 108,nat_lit 108]⟩⟩
noncomputable def s257 : Str := ⟨⟨[nat_lit 116,nat_lit 114,nat_lit 121,nat_lit 99,nat_lit 97,nat_lit 108,nat_lit 108]⟩⟩
noncomputable def s258 : Str := ⟨⟨[nat_lit 97,nat_lit 99,nat_lit 99,nat_lit 101,nat_lit 112,nat_lit 116]⟩⟩
noncomputable def s259 : Str := ⟨⟨[nat_lit 98,nat_lit 101,nat_lit 103,nat_lit 105,nat_lit 110,nat_lit 97,nat_lit 99,nat_lit 99,nat_lit 101,nat_lit 112,nat_lit 116]⟩⟩
noncomputable def s260 : Str := ⟨⟨[nat_lit 111,nat_lit 112,nat_lit 101,nat_lit 110,nat_lit 97,nat_lit 99,nat_lit 99,nat_lit 101,nat_lit 112,nat_lit 116]⟩⟩
noncomputable def s261 : Str := ⟨⟨[nat_lit 111,nat_lit 112,nat_lit 101,nat_lit 110,nat_lit 100,nat_lit 101,nat_lit 108,nat_lit 97,nat_lit 121]⟩⟩
noncomputable def s262 : Str := ⟨⟨[nat_lit 111,nat_lit 112,nat_lit 101,nat_lit 110,nat_lit 101,nat_lit 110,nat_lit 100]⟩⟩
noncomputable def s263 : Str := ⟨⟨[nat_lit 115,nat_lit 101,nat_lit 108,nat_lit 101,nat_lit 99,nat_lit 116]⟩⟩
noncomputable def s264 : Str := ⟨⟨[nat_lit 100,nat_lit 101,nat_lit 108,nat_lit 97,nat_lit 121]⟩⟩
noncomputable def s265 : Str := ⟨⟨[nat_lit 97,nat_lit 98,nat_lit 111,nat_lit 114,nat_lit 116]⟩⟩
noncomputable def s266 : Str := ⟨⟨[nat_lit 114,nat_lit 101,nat_lit 113,nat_lit 117,nat_lit 101,nat_lit 117,nat_lit 101]⟩⟩
noncomputable def s267 : Str := ⟨⟨[nat_lit 45]⟩⟩
noncomputable def s268 : Str := ⟨⟨[nat_lit 45,nat_lit 45]⟩⟩
noncomputable def s269 : Str := ⟨⟨[nat_lit 110]⟩⟩
noncomputable def s270 : Str := ⟨⟨[]⟩⟩
noncomputable def s271 : Str := ⟨⟨[nat_lit 45,nat_lit 45,nat_lit 45,nat_lit 110]⟩⟩
noncomputable def s272 : Str := ⟨⟨[nat_lit 45,nat_lit 45,nat_lit 110]⟩⟩
noncomputable def s273 : Str := ⟨⟨[nat_lit 45,nat_lit 45,nat_lit 45]⟩⟩
noncomputable def s274 : Str := ⟨⟨[nat_lit 45,nat_lit 110]⟩⟩
noncomputable def s275 : Str := ⟨⟨[nat_lit 106]⟩⟩
noncomputable def s276 : Str := ⟨⟨[nat_lit 45,nat_lit 74]⟩⟩
noncomputable def s277 : Str := ⟨⟨[nat_lit 45,nat_lit 45,nat_lit 106]⟩⟩
noncomputable def s278 : Str := ⟨⟨[nat_lit 45,nat_lit 110,nat_lit 110]⟩⟩
noncomputable def s279 : Str := ⟨⟨[nat_lit 45,nat_lit 110,nat_lit 110,nat_lit 119,nat_lit 106]⟩⟩
noncomputable def s280 : Str := ⟨⟨[nat_lit 45,nat_lit 110,nat_lit 45]⟩⟩
noncomputable def s281 : Str := ⟨⟨[nat_lit 45,nat_lit 74,nat_lit 106]⟩⟩
noncomputable def s282 : Str := ⟨⟨[nat_lit 45,nat_lit 110,nat_lit 110,nat_lit 45]⟩⟩
noncomputable def s283 : Str := ⟨⟨[nat_lit 108,nat_lit 97,nat_lit 119,nat_lit 95,nat_lit 112,nat_lit 112,nat_lit 48,nat_lit 48,nat_lit 53,nat_lit 48,nat_lit 95,nat_lit 48,nat_lit 49]⟩⟩
noncomputable def s284 : Str := ⟨⟨[nat_lit 76,nat_lit 69,nat_lit 65,nat_lit 86,nat_lit 73,nat_lit 78,nat_lit 71]⟩⟩
noncomputable def s285 : Str := ⟨⟨[nat_lit 75,nat_lit 69,nat_lit 69,nat_lit 80,nat_lit 73,nat_lit 78,nat_lit 71]⟩⟩
noncomputable def s286 : Str := ⟨⟨[nat_lit 67,nat_lit 111,nat_lit 100,nat_lit 101]⟩⟩
noncomputable def s287 : Str := ⟨⟨[nat_lit 115,nat_lit 104,nat_lit 97,nat_lit 112,nat_lit 101,nat_lit 95,nat_lit 111,nat_lit 102]⟩⟩
noncomputable def s288 : Str := ⟨⟨[nat_lit 101,nat_lit 102,nat_lit 102,nat_lit 101,nat_lit 99,nat_lit 116,nat_lit 95,nat_lit 111,nat_lit 102]⟩⟩
noncomputable def s289 : Str := ⟨⟨[nat_lit 106,nat_lit 117,nat_lit 109,nat_lit 112,nat_lit 115,nat_lit 95,nat_lit 111,nat_lit 102]⟩⟩
noncomputable def s290 : Str := ⟨⟨[nat_lit 103,nat_lit 111,nat_lit 101,nat_lit 115,nat_lit 95,nat_lit 111,nat_lit 110]⟩⟩
noncomputable def s291 : Str := ⟨⟨[nat_lit 104,nat_lit 101,nat_lit 105,nat_lit 103,nat_lit 104,nat_lit 116,nat_lit 115,nat_lit 95,nat_lit 97,nat_lit 116]⟩⟩
noncomputable def s292 : Str := ⟨⟨[nat_lit 99,nat_lit 111,nat_lit 100,nat_lit 101,nat_lit 115,nat_lit 95,nat_lit 117,nat_lit 115,nat_lit 101,nat_lit 100]⟩⟩
noncomputable def s293 : Str := ⟨⟨[nat_lit 99,nat_lit 111,nat_lit 100,nat_lit 101,nat_lit 115,nat_lit 95,nat_lit 119,nat_lit 105,nat_lit 116,nat_lit 104,nat_lit 105,nat_lit 110]⟩⟩
noncomputable def s294 : Str := ⟨⟨[nat_lit 67,nat_lit 79,nat_lit 85,nat_lit 78,nat_lit 84,nat_lit 69,nat_lit 68]⟩⟩
noncomputable def s295 : Str := ⟨⟨[nat_lit 84,nat_lit 82,nat_lit 85,nat_lit 84,nat_lit 72,nat_lit 83]⟩⟩
noncomputable def s296 : Str := ⟨⟨[nat_lit 79,nat_lit 80,nat_lit 69,nat_lit 78,nat_lit 73,nat_lit 78,nat_lit 71]⟩⟩
noncomputable def s297 : Str := ⟨⟨[nat_lit 67,nat_lit 76,nat_lit 79,nat_lit 83,nat_lit 73,nat_lit 78,nat_lit 71]⟩⟩
noncomputable def s298 : Str := ⟨⟨[nat_lit 69,nat_lit 78,nat_lit 68,nat_lit 73,nat_lit 78,nat_lit 71]⟩⟩
noncomputable def s299 : Str := ⟨⟨[nat_lit 99,nat_lit 111,nat_lit 117,nat_lit 110,nat_lit 116,nat_lit 115,nat_lit 95,nat_lit 111,nat_lit 102]⟩⟩
noncomputable def s300 : Str := ⟨⟨[nat_lit 99,nat_lit 104,nat_lit 101,nat_lit 99,nat_lit 107,nat_lit 95,nat_lit 99,nat_lit 111,nat_lit 117,nat_lit 110,nat_lit 116,nat_lit 115]⟩⟩
noncomputable def s301 : Str := ⟨⟨[nat_lit 99,nat_lit 104,nat_lit 101,nat_lit 99,nat_lit 107,nat_lit 95,nat_lit 114,nat_lit 111,nat_lit 119]⟩⟩
noncomputable def s302 : Str := ⟨⟨[nat_lit 108,nat_lit 101,nat_lit 118,nat_lit 101,nat_lit 108,nat_lit 115,nat_lit 95,nat_lit 98,nat_lit 101,nat_lit 104,nat_lit 105,nat_lit 110,nat_lit 100]⟩⟩
noncomputable def s303 : Str := ⟨⟨[nat_lit 115,nat_lit 116,nat_lit 97,nat_lit 116,nat_lit 101,nat_lit 95,nat_lit 97,nat_lit 116]⟩⟩
noncomputable def s304 : Str := ⟨⟨[nat_lit 99,nat_lit 104,nat_lit 101,nat_lit 99,nat_lit 107,nat_lit 95,nat_lit 99,nat_lit 111,nat_lit 100,nat_lit 101]⟩⟩
noncomputable def s305 : Str := ⟨⟨[nat_lit 103,nat_lit 114,nat_lit 101,nat_lit 97,nat_lit 116,nat_lit 101,nat_lit 115,nat_lit 116,nat_lit 95,nat_lit 104,nat_lit 101,nat_lit 105,nat_lit 103,nat_lit 104,nat_lit 116]⟩⟩
noncomputable def s306 : Str := ⟨⟨[nat_lit 95,nat_lit 108,nat_lit 97,nat_lit 119,nat_lit 95,nat_lit 119,nat_lit 111,nat_lit 114,nat_lit 100,nat_lit 115]⟩⟩
noncomputable def s307 : Str := ⟨⟨[nat_lit 105,nat_lit 110,nat_lit 100,nat_lit 101,nat_lit 120,nat_lit 32,nat_lit 49,nat_lit 32,nat_lit 49,nat_lit 32,nat_lit 110,nat_lit 59,nat_lit 112,nat_lit 108,nat_lit 97,nat_lit 99,nat_lit 101,nat_lit 105,nat_lit 110,nat_lit 100,nat_lit 101,nat_lit 120,nat_lit 32,nat_lit 49,nat_lit 32,nat_lit 49,nat_lit 32,nat_lit 110,nat_lit 59,nat_lit 111,nat_lit 112,nat_lit 32,nat_lit 48,nat_lit 32,nat_lit 49,nat_lit 32,nat_lit 120,nat_lit 120,nat_lit 108,nat_lit 110,nat_lit 59,nat_lit 97,nat_lit 116,nat_lit 116,nat_lit 114,nat_lit 111,nat_lit 102,nat_lit 32,nat_lit 49,nat_lit 32,nat_lit 49,nat_lit 32,nat_lit 120,nat_lit 120,nat_lit 110,nat_lit 59,nat_lit 116,nat_lit 97,nat_lit 115,nat_lit 107,nat_lit 97,nat_lit 116,nat_lit 116,nat_lit 114,nat_lit 32,nat_lit 48,nat_lit 32,nat_lit 49,nat_lit 32,nat_lit 120,nat_lit 120,nat_lit 110,nat_lit 59,nat_lit 114,nat_lit 101,nat_lit 99,nat_lit 111,nat_lit 114,nat_lit 100,nat_lit 111,nat_lit 102,nat_lit 32,nat_lit 48,nat_lit 32,nat_lit 49,nat_lit 32,nat_lit 120,nat_lit 108,nat_lit 110,nat_lit 59,nat_lit 101,nat_lit 120,nat_lit 116,nat_lit 101,nat_lit 110,nat_lit 100,nat_lit 111,nat_lit 102,nat_lit 32,nat_lit 49,nat_lit 32,nat_lit 49,nat_lit 32,nat_lit 120,nat_lit 108,nat_lit 110,nat_lit 59,nat_lit 99,nat_lit 97,nat_lit 108,nat_lit 108,nat_lit 102,nat_lit 32,nat_lit 48,nat_lit 32,nat_lit 49,nat_lit 32,nat_lit 120,nat_lit 120,nat_lit 110,nat_lit 59,nat_lit 100,nat_lit 105,nat_lit 115,nat_lit 112,nat_lit 97,nat_lit 116,nat_lit 99,nat_lit 104,nat_lit 102,nat_lit 32,nat_lit 48,nat_lit 32,nat_lit 49,nat_lit 32,nat_lit 120,nat_lit 105,nat_lit 110,nat_lit 59,nat_lit 112,nat_lit 114,nat_lit 111,nat_lit 116,nat_lit 99,nat_lit 97,nat_lit 108,nat_lit 108,nat_lit 32,nat_lit 49,nat_lit 32,nat_lit 49,nat_lit 32,nat_lit 120,nat_lit 110,nat_lit 59,nat_lit 99,nat_lit 97,nat_lit 108,nat_lit 108,nat_lit 112,nat_lit 32,nat_lit 49,nat_lit 32,nat_lit 48,nat_lit 32,nat_lit 110,nat_lit 59,nat_lit 100,nat_lit 105,nat_lit 115,nat_lit 112,nat_lit 97,nat_lit 116,nat_lit 99,nat_lit 104,nat_lit 112,nat_lit 32,nat_lit 48,nat_lit 32,nat_lit 48,nat_lit 32,nat_lit 120,nat_lit 105,nat_lit 110,nat_lit 59,nat_lit 101,nat_lit 110,nat_lit 116,nat_lit 114,nat_lit 121,nat_lit 99,nat_lit 97,nat_lit 108,nat_lit 108,nat_lit 32,nat_lit 49,nat_lit 32,nat_lit 48,nat_lit 32,nat_lit 120,nat_lit 102,nat_lit 110,nat_lit 59,nat_lit 116,nat_lit 114,nat_lit 121,nat_lit 99,nat_lit 97,nat_lit 108,nat_lit 108,nat_lit 32,nat_lit 49,nat_lit 32,nat_lit 48,nat_lit 32,nat_lit 120,nat_lit 102,nat_lit 110,nat_lit 119,nat_lit 112,nat_lit 59,nat_lit 97,nat_lit 99,nat_lit 99,nat_lit 101,nat_lit 112,nat_lit 116,nat_lit 32,nat_lit 48,nat_lit 32,nat_lit 48,nat_lit 32,nat_lit 120,nat_lit 102,nat_lit 120,nat_lit 59,nat_lit 111,nat_lit 112,nat_lit 101,nat_lit 110,nat_lit 97,nat_lit 99,nat_lit 99,nat_lit 101,nat_lit 112,nat_lit 116,nat_lit 32,nat_lit 49,nat_lit 32,nat_lit 49,nat_lit 32,nat_lit 120,nat_lit 120,nat_lit 102,nat_lit 59,nat_lit 114,nat_lit 101,nat_lit 113,nat_lit 117,nat_lit 101,nat_lit 117,nat_lit 101,nat_lit 32,nat_lit 48,nat_lit 32,nat_lit 48,nat_lit 32,nat_lit 120,nat_lit 102,nat_lit 102,nat_lit 120]⟩⟩
noncomputable def s308 : Str := ⟨⟨[nat_lit 95,nat_lit 108,nat_lit 97,nat_lit 119,nat_lit 95,nat_lit 107,nat_lit 105,nat_lit 110,nat_lit 100,nat_lit 115]⟩⟩
noncomputable def s309 : Str := ⟨⟨[nat_lit 95,nat_lit 108,nat_lit 97,nat_lit 119,nat_lit 95,nat_lit 111,nat_lit 112,nat_lit 101,nat_lit 110,nat_lit 115]⟩⟩
noncomputable def s310 : Str := ⟨⟨[nat_lit 95,nat_lit 108,nat_lit 97,nat_lit 119,nat_lit 95,nat_lit 108,nat_lit 97,nat_lit 115,nat_lit 116,nat_lit 115]⟩⟩
noncomputable def s311 : Str := ⟨⟨[nat_lit 95,nat_lit 108,nat_lit 97,nat_lit 119,nat_lit 95,nat_lit 99,nat_lit 101,nat_lit 108,nat_lit 108]⟩⟩
noncomputable def s312 : Str := ⟨⟨[nat_lit 95,nat_lit 108,nat_lit 97,nat_lit 119,nat_lit 95,nat_lit 114,nat_lit 111,nat_lit 119]⟩⟩
noncomputable def s313 : Str := ⟨⟨[nat_lit 95,nat_lit 108,nat_lit 97,nat_lit 119,nat_lit 95,nat_lit 116,nat_lit 97,nat_lit 107,nat_lit 101,nat_lit 110]⟩⟩
noncomputable def s314 : Str := ⟨⟨[nat_lit 95,nat_lit 108,nat_lit 97,nat_lit 119,nat_lit 95,nat_lit 110,nat_lit 101,nat_lit 115,nat_lit 116]⟩⟩
noncomputable def s315 : Str := ⟨⟨[nat_lit 95,nat_lit 108,nat_lit 97,nat_lit 119,nat_lit 95,nat_lit 114,nat_lit 105,nat_lit 103,nat_lit 104,nat_lit 116]⟩⟩
noncomputable def s316 : Str := ⟨⟨[nat_lit 108,nat_lit 97,nat_lit 119]⟩⟩
noncomputable def s317 : Str := ⟨⟨[nat_lit 114,nat_lit 111,nat_lit 119,nat_lit 115]⟩⟩
noncomputable def s318 : Str := ⟨⟨[nat_lit 115,nat_lit 111,nat_lit 117,nat_lit 114,nat_lit 99,nat_lit 101]⟩⟩
noncomputable def s319 : Str := ⟨⟨[nat_lit 99,nat_lit 111,nat_lit 100,nat_lit 101,nat_lit 115]⟩⟩
noncomputable def s320 : Str := ⟨⟨[nat_lit 67,nat_lit 111,nat_lit 100,nat_lit 101,nat_lit 46,nat_lit 95,nat_lit 95,nat_lit 105,nat_lit 110,nat_lit 105,nat_lit 116,nat_lit 95,nat_lit 95]⟩⟩
noncomputable def s321 : Str := ⟨⟨[nat_lit 98,nat_lit 97,nat_lit 114,nat_lit 114,nat_lit 105,nat_lit 101,nat_lit 114]⟩⟩
noncomputable def s322 : Str := ⟨⟨[nat_lit 111,nat_lit 112,nat_lit 101,nat_lit 114,nat_lit 97,nat_lit 116,nat_lit 105,nat_lit 111,nat_lit 110,nat_lit 115]⟩⟩
noncomputable def s323 : Str := ⟨⟨[nat_lit 95,nat_lit 95,nat_lit 100,nat_lit 105,nat_lit 99,nat_lit 116,nat_lit 95,nat_lit 95]⟩⟩
noncomputable def s324 : Str := ⟨⟨[nat_lit 114,nat_lit 111,nat_lit 119]⟩⟩
noncomputable def s325 : Str := ⟨⟨[nat_lit 115,nat_lit 104,nat_lit 97,nat_lit 112,nat_lit 101]⟩⟩
noncomputable def s326 : Str := ⟨⟨[nat_lit 116,nat_lit 97,nat_lit 107,nat_lit 101,nat_lit 110]⟩⟩
noncomputable def s327 : Str := ⟨⟨[nat_lit 108,nat_lit 101,nat_lit 102,nat_lit 116]⟩⟩
noncomputable def s328 : Str := ⟨⟨[nat_lit 112,nat_lit 97,nat_lit 114,nat_lit 116,nat_lit 115]⟩⟩
noncomputable def s329 : Str := ⟨⟨[nat_lit 97,nat_lit 116]⟩⟩
noncomputable def s330 : Str := ⟨⟨[nat_lit 102,nat_lit 111,nat_lit 117,nat_lit 110,nat_lit 100]⟩⟩
noncomputable def s331 : Str := ⟨⟨[nat_lit 99,nat_lit 104,nat_lit 111,nat_lit 105,nat_lit 99,nat_lit 101,nat_lit 115]⟩⟩
noncomputable def s332 : Str := ⟨⟨[nat_lit 112,nat_lit 97,nat_lit 114,nat_lit 116]⟩⟩
noncomputable def s333 : Str := ⟨⟨[nat_lit 97,nat_lit 100,nat_lit 97,nat_lit 99,nat_lit 111,nat_lit 114,nat_lit 101,nat_lit 46,nat_lit 111,nat_lit 112,nat_lit 99,nat_lit 104,nat_lit 101,nat_lit 99,nat_lit 107]⟩⟩
noncomputable def s334 : Str := ⟨⟨[nat_lit 115,nat_lit 105,nat_lit 122,nat_lit 101]⟩⟩
noncomputable def s335 : Str := ⟨⟨[nat_lit 109,nat_lit 97,nat_lit 110,nat_lit 121]⟩⟩
noncomputable def s336 : Str := ⟨⟨[nat_lit 110,nat_lit 117,nat_lit 109,nat_lit 98,nat_lit 101,nat_lit 114]⟩⟩
noncomputable def s337 : Str := ⟨⟨[nat_lit 108,nat_lit 101,nat_lit 118,nat_lit 101,nat_lit 108,nat_lit 115]⟩⟩
noncomputable def s338 : Str := ⟨⟨[nat_lit 119,nat_lit 97,nat_lit 105,nat_lit 116,nat_lit 105,nat_lit 110,nat_lit 103]⟩⟩
noncomputable def s339 : Str := ⟨⟨[nat_lit 104,nat_lit 101,nat_lit 105,nat_lit 103,nat_lit 104,nat_lit 116]⟩⟩
noncomputable def s340 : Str := ⟨⟨[nat_lit 98,nat_lit 101,nat_lit 104,nat_lit 105,nat_lit 110,nat_lit 100]⟩⟩
noncomputable def s341 : Str := ⟨⟨[nat_lit 99,nat_lit 104,nat_lit 97,nat_lit 110,nat_lit 103,nat_lit 101]⟩⟩
noncomputable def s342 : Str := ⟨⟨[nat_lit 99,nat_lit 111,nat_lit 100,nat_lit 101]⟩⟩
noncomputable def s343 : Str := ⟨⟨[nat_lit 111,nat_lit 110,nat_lit 101]⟩⟩
noncomputable def s344 : Str := ⟨⟨[nat_lit 109,nat_lit 111,nat_lit 115,nat_lit 116]⟩⟩
noncomputable def s345 : Str := ⟨⟨[nat_lit 115,nat_lit 116,nat_lit 97,nat_lit 116,nat_lit 101]⟩⟩
noncomputable def s346 : Str := ⟨⟨[nat_lit 98]⟩⟩
noncomputable def s347 : Str := ⟨⟨[nat_lit 101]⟩⟩
noncomputable def s348 : Str := ⟨⟨[nat_lit 117,nat_lit 114,nat_lit 110]⟩⟩
noncomputable def s349 : Str := ⟨⟨[nat_lit 119,nat_lit 111,nat_lit 114,nat_lit 100]⟩⟩
noncomputable def s350 : Str := ⟨⟨[nat_lit 107,nat_lit 105,nat_lit 110,nat_lit 100,nat_lit 115]⟩⟩
noncomputable def s351 : Str := ⟨⟨[nat_lit 95]⟩⟩
noncomputable def s352 : Str := ⟨⟨[nat_lit 115,nat_lit 104,nat_lit 117,nat_lit 116]⟩⟩
noncomputable def s353 : Str := ⟨⟨[nat_lit 98,nat_lit 101,nat_lit 110,nat_lit 100]⟩⟩
noncomputable def o0 (p : Program) (P : Params) : Obj := ⟨(.type "dict"),.none,(.dict ⟨[⟨(PyData.keyHash P s0),(.str s0 1),(.str s1 160)⟩,⟨(PyData.keyHash P s2),(.str s2 2),(.builtin "builtins.__doc__:str#opaque")⟩,⟨(PyData.keyHash P s3),(.str s3 3),(.builtin "builtins.__package__:str#opaque")⟩,⟨(PyData.keyHash P s4),(.str s4 4),(.builtin "builtins.__loader__:shared#opaque")⟩,⟨(PyData.keyHash P s5),(.str s5 5),(.builtin "builtins.__spec__#opaque")⟩,⟨(PyData.keyHash P s6),(.str s6 6),(.builtin "__build_class__")⟩,⟨(PyData.keyHash P s7),(.str s7 7),(.builtin "__import__")⟩,⟨(PyData.keyHash P s8),(.str s8 8),(.builtin "abs")⟩,⟨(PyData.keyHash P s9),(.str s9 9),(.builtin "all")⟩,⟨(PyData.keyHash P s10),(.str s10 10),(.builtin "any")⟩,⟨(PyData.keyHash P s11),(.str s11 11),(.builtin "ascii")⟩,⟨(PyData.keyHash P s12),(.str s12 12),(.builtin "bin")⟩,⟨(PyData.keyHash P s13),(.str s13 13),(.builtin "breakpoint")⟩,⟨(PyData.keyHash P s14),(.str s14 14),(.builtin "callable")⟩,⟨(PyData.keyHash P s15),(.str s15 15),(.builtin "chr")⟩,⟨(PyData.keyHash P s16),(.str s16 16),(.builtin "compile")⟩,⟨(PyData.keyHash P s17),(.str s17 17),(.builtin "delattr")⟩,⟨(PyData.keyHash P s18),(.str s18 18),(.builtin "dir")⟩,⟨(PyData.keyHash P s19),(.str s19 19),(.builtin "divmod")⟩,⟨(PyData.keyHash P s20),(.str s20 20),(.builtin "eval")⟩,⟨(PyData.keyHash P s21),(.str s21 21),(.builtin "exec")⟩,⟨(PyData.keyHash P s22),(.str s22 22),(.builtin "format")⟩,⟨(PyData.keyHash P s23),(.str s23 23),(.builtin "getattr")⟩,⟨(PyData.keyHash P s24),(.str s24 24),(.builtin "globals")⟩,⟨(PyData.keyHash P s25),(.str s25 25),(.builtin "hasattr")⟩,⟨(PyData.keyHash P s26),(.str s26 26),(.builtin "hash")⟩,⟨(PyData.keyHash P s27),(.str s27 27),(.builtin "hex")⟩,⟨(PyData.keyHash P s28),(.str s28 28),(.builtin "id")⟩,⟨(PyData.keyHash P s29),(.str s29 29),(.builtin "input")⟩,⟨(PyData.keyHash P s30),(.str s30 30),(.builtin "isinstance")⟩,⟨(PyData.keyHash P s31),(.str s31 31),(.builtin "issubclass")⟩,⟨(PyData.keyHash P s32),(.str s32 32),(.builtin "iter")⟩,⟨(PyData.keyHash P s33),(.str s33 33),(.builtin "aiter")⟩,⟨(PyData.keyHash P s34),(.str s34 34),(.builtin "len")⟩,⟨(PyData.keyHash P s35),(.str s35 35),(.builtin "locals")⟩,⟨(PyData.keyHash P s36),(.str s36 36),(.builtin "max")⟩,⟨(PyData.keyHash P s37),(.str s37 37),(.builtin "min")⟩,⟨(PyData.keyHash P s38),(.str s38 38),(.builtin "next")⟩,⟨(PyData.keyHash P s39),(.str s39 39),(.builtin "anext")⟩,⟨(PyData.keyHash P s40),(.str s40 40),(.builtin "oct")⟩,⟨(PyData.keyHash P s41),(.str s41 41),(.builtin "ord")⟩,⟨(PyData.keyHash P s42),(.str s42 42),(.builtin "pow")⟩,⟨(PyData.keyHash P s43),(.str s43 43),(.builtin "print")⟩,⟨(PyData.keyHash P s44),(.str s44 44),(.builtin "repr")⟩,⟨(PyData.keyHash P s45),(.str s45 45),(.builtin "round")⟩,⟨(PyData.keyHash P s46),(.str s46 46),(.builtin "setattr")⟩,⟨(PyData.keyHash P s47),(.str s47 47),(.builtin "sorted")⟩,⟨(PyData.keyHash P s48),(.str s48 48),(.builtin "sum")⟩,⟨(PyData.keyHash P s49),(.str s49 49),(.builtin "vars")⟩,⟨(PyData.keyHash P s50),(.str s50 50),.none⟩,⟨(PyData.keyHash P s51),(.str s51 51),.ellipsis⟩,⟨(PyData.keyHash P s52),(.str s52 52),.notImplemented⟩,⟨(PyData.keyHash P s53),(.str s53 53),(.bool .false)⟩,⟨(PyData.keyHash P s54),(.str s54 54),(.bool .true)⟩,⟨(PyData.keyHash P s55),(.str s55 55),(.type "bool")⟩,⟨(PyData.keyHash P s56),(.str s56 56),(.type "memoryview")⟩,⟨(PyData.keyHash P s57),(.str s57 57),(.type "bytearray")⟩,⟨(PyData.keyHash P s58),(.str s58 58),(.type "bytes")⟩,⟨(PyData.keyHash P s59),(.str s59 59),(.type "classmethod")⟩,⟨(PyData.keyHash P s60),(.str s60 60),(.type "complex")⟩,⟨(PyData.keyHash P s61),(.str s61 61),(.type "dict")⟩,⟨(PyData.keyHash P s62),(.str s62 62),(.type "enumerate")⟩,⟨(PyData.keyHash P s63),(.str s63 63),(.type "filter")⟩,⟨(PyData.keyHash P s64),(.str s64 64),(.type "float")⟩,⟨(PyData.keyHash P s65),(.str s65 65),(.type "frozenset")⟩,⟨(PyData.keyHash P s66),(.str s66 66),(.type "property")⟩,⟨(PyData.keyHash P s67),(.str s67 67),(.type "int")⟩,⟨(PyData.keyHash P s68),(.str s68 68),(.type "list")⟩,⟨(PyData.keyHash P s69),(.str s69 69),(.type "map")⟩,⟨(PyData.keyHash P s70),(.str s70 70),(.type "object")⟩,⟨(PyData.keyHash P s71),(.str s71 71),(.type "range")⟩,⟨(PyData.keyHash P s72),(.str s72 72),(.type "reversed")⟩,⟨(PyData.keyHash P s73),(.str s73 73),(.type "set")⟩,⟨(PyData.keyHash P s74),(.str s74 74),(.type "slice")⟩,⟨(PyData.keyHash P s75),(.str s75 75),(.type "staticmethod")⟩,⟨(PyData.keyHash P s76),(.str s76 76),(.type "str")⟩,⟨(PyData.keyHash P s77),(.str s77 77),(.type "super")⟩,⟨(PyData.keyHash P s78),(.str s78 78),(.type "tuple")⟩,⟨(PyData.keyHash P s79),(.str s79 79),(.type "type")⟩,⟨(PyData.keyHash P s80),(.str s80 80),(.type "zip")⟩,⟨(PyData.keyHash P s81),(.str s81 81),(.bool .true)⟩,⟨(PyData.keyHash P s82),(.str s82 82),(.type "BaseException")⟩,⟨(PyData.keyHash P s83),(.str s83 83),(.type "BaseExceptionGroup")⟩,⟨(PyData.keyHash P s84),(.str s84 84),(.type "Exception")⟩,⟨(PyData.keyHash P s85),(.str s85 85),(.type "GeneratorExit")⟩,⟨(PyData.keyHash P s86),(.str s86 86),(.type "KeyboardInterrupt")⟩,⟨(PyData.keyHash P s87),(.str s87 87),(.type "SystemExit")⟩,⟨(PyData.keyHash P s88),(.str s88 88),(.type "ArithmeticError")⟩,⟨(PyData.keyHash P s89),(.str s89 89),(.type "AssertionError")⟩,⟨(PyData.keyHash P s90),(.str s90 90),(.type "AttributeError")⟩,⟨(PyData.keyHash P s91),(.str s91 91),(.type "BufferError")⟩,⟨(PyData.keyHash P s92),(.str s92 92),(.type "EOFError")⟩,⟨(PyData.keyHash P s93),(.str s93 93),(.type "ImportError")⟩,⟨(PyData.keyHash P s94),(.str s94 94),(.type "LookupError")⟩,⟨(PyData.keyHash P s95),(.str s95 95),(.type "MemoryError")⟩,⟨(PyData.keyHash P s96),(.str s96 96),(.type "NameError")⟩,⟨(PyData.keyHash P s97),(.str s97 97),(.type "OSError")⟩,⟨(PyData.keyHash P s98),(.str s98 98),(.type "ReferenceError")⟩,⟨(PyData.keyHash P s99),(.str s99 99),(.type "RuntimeError")⟩,⟨(PyData.keyHash P s100),(.str s100 100),(.type "StopAsyncIteration")⟩,⟨(PyData.keyHash P s101),(.str s101 101),(.type "StopIteration")⟩,⟨(PyData.keyHash P s102),(.str s102 102),(.type "SyntaxError")⟩,⟨(PyData.keyHash P s103),(.str s103 103),(.type "SystemError")⟩,⟨(PyData.keyHash P s104),(.str s104 104),(.type "TypeError")⟩,⟨(PyData.keyHash P s105),(.str s105 105),(.type "ValueError")⟩,⟨(PyData.keyHash P s106),(.str s106 106),(.type "Warning")⟩,⟨(PyData.keyHash P s107),(.str s107 107),(.type "FloatingPointError")⟩,⟨(PyData.keyHash P s108),(.str s108 108),(.type "OverflowError")⟩,⟨(PyData.keyHash P s109),(.str s109 109),(.type "ZeroDivisionError")⟩,⟨(PyData.keyHash P s110),(.str s110 110),(.type "BytesWarning")⟩,⟨(PyData.keyHash P s111),(.str s111 111),(.type "DeprecationWarning")⟩,⟨(PyData.keyHash P s112),(.str s112 112),(.type "EncodingWarning")⟩,⟨(PyData.keyHash P s113),(.str s113 113),(.type "FutureWarning")⟩,⟨(PyData.keyHash P s114),(.str s114 114),(.type "ImportWarning")⟩,⟨(PyData.keyHash P s115),(.str s115 115),(.type "PendingDeprecationWarning")⟩,⟨(PyData.keyHash P s116),(.str s116 116),(.type "ResourceWarning")⟩,⟨(PyData.keyHash P s117),(.str s117 117),(.type "RuntimeWarning")⟩,⟨(PyData.keyHash P s118),(.str s118 118),(.type "SyntaxWarning")⟩,⟨(PyData.keyHash P s119),(.str s119 119),(.type "UnicodeWarning")⟩,⟨(PyData.keyHash P s120),(.str s120 120),(.type "UserWarning")⟩,⟨(PyData.keyHash P s121),(.str s121 121),(.type "BlockingIOError")⟩,⟨(PyData.keyHash P s122),(.str s122 122),(.type "ChildProcessError")⟩,⟨(PyData.keyHash P s123),(.str s123 123),(.type "ConnectionError")⟩,⟨(PyData.keyHash P s124),(.str s124 124),(.type "FileExistsError")⟩,⟨(PyData.keyHash P s125),(.str s125 125),(.type "FileNotFoundError")⟩,⟨(PyData.keyHash P s126),(.str s126 126),(.type "InterruptedError")⟩,⟨(PyData.keyHash P s127),(.str s127 127),(.type "IsADirectoryError")⟩,⟨(PyData.keyHash P s128),(.str s128 128),(.type "NotADirectoryError")⟩,⟨(PyData.keyHash P s129),(.str s129 129),(.type "PermissionError")⟩,⟨(PyData.keyHash P s130),(.str s130 130),(.type "ProcessLookupError")⟩,⟨(PyData.keyHash P s131),(.str s131 131),(.type "TimeoutError")⟩,⟨(PyData.keyHash P s132),(.str s132 132),(.type "IndentationError")⟩,⟨(PyData.keyHash P s133),(.str s133 133),(.type "_IncompleteInputError")⟩,⟨(PyData.keyHash P s134),(.str s134 134),(.type "IndexError")⟩,⟨(PyData.keyHash P s135),(.str s135 135),(.type "KeyError")⟩,⟨(PyData.keyHash P s136),(.str s136 136),(.type "ModuleNotFoundError")⟩,⟨(PyData.keyHash P s137),(.str s137 137),(.type "NotImplementedError")⟩,⟨(PyData.keyHash P s138),(.str s138 138),(.type "PythonFinalizationError")⟩,⟨(PyData.keyHash P s139),(.str s139 139),(.type "RecursionError")⟩,⟨(PyData.keyHash P s140),(.str s140 140),(.type "UnboundLocalError")⟩,⟨(PyData.keyHash P s141),(.str s141 141),(.type "UnicodeError")⟩,⟨(PyData.keyHash P s142),(.str s142 142),(.type "BrokenPipeError")⟩,⟨(PyData.keyHash P s143),(.str s143 143),(.type "ConnectionAbortedError")⟩,⟨(PyData.keyHash P s144),(.str s144 144),(.type "ConnectionRefusedError")⟩,⟨(PyData.keyHash P s145),(.str s145 145),(.type "ConnectionResetError")⟩,⟨(PyData.keyHash P s146),(.str s146 146),(.type "TabError")⟩,⟨(PyData.keyHash P s147),(.str s147 147),(.type "UnicodeDecodeError")⟩,⟨(PyData.keyHash P s148),(.str s148 148),(.type "UnicodeEncodeError")⟩,⟨(PyData.keyHash P s149),(.str s149 149),(.type "UnicodeTranslateError")⟩,⟨(PyData.keyHash P s150),(.str s150 150),(.type "ExceptionGroup")⟩,⟨(PyData.keyHash P s151),(.str s151 151),(.type "OSError")⟩,⟨(PyData.keyHash P s152),(.str s152 152),(.type "OSError")⟩,⟨(PyData.keyHash P s153),(.str s153 153),(.builtin "open")⟩,⟨(PyData.keyHash P s154),(.str s154 154),(.builtin "builtins.quit#opaque")⟩,⟨(PyData.keyHash P s155),(.str s155 155),(.builtin "builtins.exit#opaque")⟩,⟨(PyData.keyHash P s156),(.str s156 156),(.builtin "builtins.copyright#opaque")⟩,⟨(PyData.keyHash P s157),(.str s157 157),(.builtin "builtins.credits#opaque")⟩,⟨(PyData.keyHash P s158),(.str s158 158),(.builtin "builtins.license#opaque")⟩,⟨(PyData.keyHash P s159),(.str s159 159),(.builtin "builtins.help#opaque")⟩]⟩ 159),⟨[]⟩⟩
noncomputable def o1 (p : Program) (P : Params) : Obj := ⟨(.type "dict"),.none,(.dict ⟨[⟨(PyData.keyHash P s1),(.str s1 162),(.ref 4)⟩,⟨(PyData.keyHash P s160),(.str s160 163),(.ref 5)⟩]⟩ 2),⟨[]⟩⟩
noncomputable def o2 (p : Program) (P : Params) : Obj := ⟨.none,.none,(.dict ⟨[]⟩ 0),⟨[]⟩⟩
noncomputable def o3 (p : Program) (P : Params) : Obj := ⟨(.type "dict"),.none,(.dict ⟨[⟨(PyData.keyHash P s0),(.str s0 165),(.str s160 164)⟩,⟨(PyData.keyHash P s2),(.str s2 166),.none⟩,⟨(PyData.keyHash P s3),(.str s3 167),.none⟩,⟨(PyData.keyHash P s4),(.str s4 168),(.builtin "__main__.__loader__#opaque")⟩,⟨(PyData.keyHash P s5),(.str s5 169),.none⟩,⟨(PyData.keyHash P s161),(.str s161 170),(.ref 6)⟩,⟨(PyData.keyHash P s162),(.str s162 171),(.ref 4)⟩,⟨(PyData.keyHash P s163),(.str s163 173),(.str s164 172)⟩,⟨(PyData.keyHash P s165),(.str s165 174),.none⟩]⟩ 9),⟨[]⟩⟩
noncomputable def o4 (p : Program) (P : Params) : Obj := ⟨(.type "module"),(.some 0),.plain,⟨[]⟩⟩
noncomputable def o5 (p : Program) (P : Params) : Obj := ⟨(.type "module"),(.some 3),.plain,⟨[]⟩⟩
noncomputable def o6 (p : Program) (P : Params) : Obj := ⟨(.type "dict"),.none,(.dict ⟨[]⟩ 0),⟨[]⟩⟩
noncomputable def o7 (p : Program) (P : Params) : Obj := ⟨(.type "tuple"),.none,(.seq ⟨[]⟩ 0),⟨[]⟩⟩
noncomputable def o8 (p : Program) (P : Params) : Obj := ⟨.none,.none,(.fields ⟨[]⟩),⟨[]⟩⟩
noncomputable def o9 (p : Program) (P : Params) : Obj := ⟨(.type "code"),.none,(.fields ⟨[(.str s166 176),(.str s166 177),(.str s164 178),(.int (.ofNat 1) 0),(.int (.ofNat 0) 0),(.int (.ofNat 0) 0),(.int (.ofNat 0) 0),(.int (.ofNat 0) 0),(.ref 7),(.bool .false),(.int (.ofNat 175) 0),(.ref 8),.none,.none,.none,.none,(.int (.ofNat 179) 0),(.int (.ofNat 1) 0),(.str s164 180)]⟩),⟨[]⟩⟩
noncomputable def o10 (p : Program) (P : Params) : Obj := ⟨(.type "frame"),.none,.plain,⟨[(.some (.ref 9)),(.some (.ref 3)),(.some (.ref 3)),.none,(.some (.str s160 164)),.none,(.some (.ref 0))]⟩⟩
noncomputable def o11 (p : Program) (P : Params) : Obj := ⟨(.type "tuple"),.none,(.seq ⟨[]⟩ 0),⟨[]⟩⟩
noncomputable def o12 (p : Program) (P : Params) : Obj := ⟨.none,.none,(.fields ⟨[]⟩),⟨[]⟩⟩
noncomputable def o13 (p : Program) (P : Params) : Obj := ⟨(.type "code"),.none,(.fields ⟨[(.str s166 182),(.str s166 183),(.str s164 184),(.int (.ofNat 1) 0),(.int (.ofNat 0) 0),(.int (.ofNat 0) 0),(.int (.ofNat 0) 0),(.int (.ofNat 0) 0),(.ref 11),(.bool .false),(.int (.ofNat 181) 0),(.ref 12),.none,.none,.none,.none,(.int (.ofNat 185) 0),(.int (.ofNat 1) 0),(.str s164 186)]⟩),⟨[]⟩⟩
noncomputable def o14 (p : Program) (P : Params) : Obj := ⟨(.type "frame"),.none,.plain,⟨[(.some (.ref 13)),(.some (.ref 3)),(.some (.ref 3)),.none,(.some (.str s160 164)),.none,(.some (.ref 0))]⟩⟩
noncomputable def o2_3 (p : Program) (P : Params) : Obj := ⟨.none,.none,(.dict ⟨[⟨(PyData.keyHash P s167),(.str s167 214),(.int (.ofNat 31) 0)⟩,⟨(PyData.keyHash P s168),(.str s168 215),(.int (.ofNat 1) 0)⟩]⟩ 2),⟨[]⟩⟩
noncomputable def o3_3 (p : Program) (P : Params) : Obj := ⟨(.type "dict"),.none,(.dict ⟨[⟨(PyData.keyHash P s0),(.str s0 165),(.str s169 234)⟩,⟨(PyData.keyHash P s2),(.str s2 166),.none⟩,⟨(PyData.keyHash P s3),(.str s3 167),.none⟩,⟨(PyData.keyHash P s4),(.str s4 168),(.builtin "__main__.__loader__#opaque")⟩,⟨(PyData.keyHash P s5),(.str s5 169),.none⟩,⟨(PyData.keyHash P s161),(.str s161 170),(.ref 6)⟩,⟨(PyData.keyHash P s162),(.str s162 171),(.ref 4)⟩,⟨(PyData.keyHash P s163),(.str s163 173),(.str s164 172)⟩,⟨(PyData.keyHash P s165),(.str s165 174),.none⟩,⟨(PyData.keyHash P s170),(.str s170 217),(.ref 31)⟩,⟨(PyData.keyHash P s171),(.str s171 233),(.ref 44)⟩]⟩ 11),⟨[]⟩⟩
noncomputable def o12_3 (p : Program) (P : Params) : Obj := ⟨.none,.none,(.fields ⟨[(.int (.ofNat 2) 0),(.int (.ofNat 0) 0),(.ref 20),(.int (.ofNat 7) 0),(.int (.ofNat 0) 0),(.ref 40)]⟩),⟨[]⟩⟩
noncomputable def o15 (p : Program) (P : Params) : Obj := ⟨(.type "tuple"),.none,(.seq ⟨[(.type "Exception")]⟩ 0),⟨[]⟩⟩
noncomputable def o16 (p : Program) (P : Params) : Obj := ⟨(.type "builtin_function_or_method"),.none,(.fields ⟨[(.builtin "type.__prepare__"),(.type "type")]⟩),⟨[]⟩⟩
noncomputable def o17 (p : Program) (P : Params) : Obj := ⟨(.type "dict"),.none,(.dict ⟨[⟨(PyData.keyHash P s172),(.str s172 196),(.str s173 187)⟩,⟨(PyData.keyHash P s174),(.str s174 198),(.str s170 197)⟩,⟨(PyData.keyHash P s175),(.str s175 200),(.int (.ofNat 2) 199)⟩,⟨(PyData.keyHash P s176),(.str s176 208),(.ref 28)⟩,⟨(PyData.keyHash P s177),(.str s177 210),(.ref 29)⟩]⟩ 5),⟨[]⟩⟩
noncomputable def o18 (p : Program) (P : Params) : Obj := ⟨(.type "tuple"),.none,(.seq ⟨[]⟩ 0),⟨[]⟩⟩
noncomputable def o19 (p : Program) (P : Params) : Obj := ⟨.none,.none,(.fields ⟨[(.int (.ofNat 4) 0),(.int (.ofNat 4) 0),(.ref 27)]⟩),⟨[]⟩⟩
noncomputable def o20 (p : Program) (P : Params) : Obj := ⟨(.type "code"),.none,(.fields ⟨[(.str s170 191),(.str s170 192),(.str s164 193),(.int (.ofNat 2) 0),(.int (.ofNat 0) 0),(.int (.ofNat 0) 0),(.int (.ofNat 0) 0),(.int (.ofNat 0) 0),(.ref 18),(.bool .false),(.int (.ofNat 181) 0),(.ref 19),.none,.none,.none,.none,(.int (.ofNat 194) 0),(.int (.ofNat 2) 0),(.str s164 195)]⟩),⟨[]⟩⟩
noncomputable def o21 (p : Program) (P : Params) : Obj := ⟨(.type "frame"),.none,.plain,⟨[(.some (.ref 20)),(.some (.ref 3)),(.some (.ref 17)),.none,(.some (.str s173 187)),.none,(.some (.ref 0))]⟩⟩
noncomputable def o22 (p : Program) (P : Params) : Obj := ⟨(.type "tuple"),.none,(.seq ⟨[]⟩ 0),⟨[]⟩⟩
noncomputable def o23 (p : Program) (P : Params) : Obj := ⟨.none,.none,(.fields ⟨[]⟩),⟨[]⟩⟩
noncomputable def o24 (p : Program) (P : Params) : Obj := ⟨(.type "tuple"),.none,(.seq ⟨[(.str s178 204),(.str s179 205)]⟩ 0),⟨[]⟩⟩
noncomputable def o25 (p : Program) (P : Params) : Obj := ⟨(.type "tuple"),.none,(.seq ⟨[]⟩ 0),⟨[]⟩⟩
noncomputable def o26 (p : Program) (P : Params) : Obj := ⟨.none,.none,(.func ⟨s176,s180,(fArgs (inCls (stN p 1) 0)),(.stmts (fBody (inCls (stN p 1) 0))),(fScope (inCls (stN p 1) 0)),0,[],.none,.none,.none,.none,.none,.none,.none,0⟩),⟨[]⟩⟩
noncomputable def o27 (p : Program) (P : Params) : Obj := ⟨(.type "code"),.none,(.fields ⟨[(.str s176 201),(.str s180 202),(.str s164 203),(.int (.ofNat 4) 0),(.int (.ofNat 2) 0),(.int (.ofNat 0) 0),(.int (.ofNat 0) 0),(.int (.ofNat 3) 0),(.ref 22),(.bool .true),(.int (.ofNat 181) 0),(.ref 23),.none,(.ref 24),(.ref 25),(.ref 26),(.int (.ofNat 206) 0),(.int (.ofNat 4) 0),(.str s164 207)]⟩),⟨[]⟩⟩
noncomputable def o28 (p : Program) (P : Params) : Obj := ⟨(.type "function"),.none,(.func ⟨s176,s180,(fArgs (inCls (stN p 1) 0)),(.stmts (fBody (inCls (stN p 1) 0))),(fScope (inCls (stN p 1) 0)),3,[],.none,.none,.none,(.str s173 187),.none,(.ref 27),.none,0⟩),⟨[]⟩⟩
noncomputable def o29 (p : Program) (P : Params) : Obj := ⟨(.type "tuple"),.none,(.seq ⟨[(.str s179 209)]⟩ 0),⟨[]⟩⟩
noncomputable def o30 (p : Program) (P : Params) : Obj := ⟨(.type "dict"),.none,(.dict ⟨[⟨(PyData.keyHash P s172),(.str s172 196),(.str s173 187)⟩,⟨(PyData.keyHash P s175),(.str s175 200),(.int (.ofNat 2) 199)⟩,⟨(PyData.keyHash P s176),(.str s176 208),(.ref 28)⟩,⟨(PyData.keyHash P s177),(.str s177 210),(.ref 29)⟩,⟨(PyData.keyHash P s181),(.str s181 212),(.ref 32)⟩,⟨(PyData.keyHash P s2),(.str s2 213),.none⟩]⟩ 3),⟨[]⟩⟩
noncomputable def o31 (p : Program) (P : Params) : Obj := ⟨(.type "type"),.none,(.cls ⟨s170,[(.type "Exception")],[(.ref 31),(.type "Exception"),(.type "BaseException"),(.type "object")],30,s170,.true,[],[(.ref 44)],.false,.none,.false⟩),⟨[(.some (.ref 15)),.none,(.some (.str s170 189)),(.some (.str s170 197)),(.some (.builtin "Exception.__new__")),(.some (.bool .true))]⟩⟩
noncomputable def o32 (p : Program) (P : Params) : Obj := ⟨(.type "getset_descriptor"),.none,(.fields ⟨[(.str s181 211),(.ref 31),(.builtin "ExceptionGroup.__weakref__"),.none]⟩),⟨[]⟩⟩
noncomputable def o33 (p : Program) (P : Params) : Obj := ⟨(.type "super"),.none,(.fields ⟨[(.ref 31),(.ref 31),(.ref 31)]⟩),⟨[]⟩⟩
noncomputable def o34 (p : Program) (P : Params) : Obj := ⟨(.type "builtin_function_or_method"),.none,(.fields ⟨[(.builtin "object.__init_subclass__"),(.ref 31)]⟩),⟨[]⟩⟩
noncomputable def o35 (p : Program) (P : Params) : Obj := ⟨(.type "tuple"),.none,(.seq ⟨[(.ref 31)]⟩ 0),⟨[]⟩⟩
noncomputable def o36 (p : Program) (P : Params) : Obj := ⟨(.type "builtin_function_or_method"),.none,(.fields ⟨[(.builtin "type.__prepare__"),(.type "type")]⟩),⟨[]⟩⟩
noncomputable def o37 (p : Program) (P : Params) : Obj := ⟨(.type "dict"),.none,(.dict ⟨[⟨(PyData.keyHash P s172),(.str s172 225),(.str s173 187)⟩,⟨(PyData.keyHash P s174),(.str s174 227),(.str s171 226)⟩,⟨(PyData.keyHash P s175),(.str s175 229),(.int (.ofNat 7) 228)⟩,⟨(PyData.keyHash P s177),(.str s177 230),(.ref 42)⟩]⟩ 4),⟨[]⟩⟩
noncomputable def o38 (p : Program) (P : Params) : Obj := ⟨(.type "tuple"),.none,(.seq ⟨[]⟩ 0),⟨[]⟩⟩
noncomputable def o39 (p : Program) (P : Params) : Obj := ⟨.none,.none,(.fields ⟨[]⟩),⟨[]⟩⟩
noncomputable def o40 (p : Program) (P : Params) : Obj := ⟨(.type "code"),.none,(.fields ⟨[(.str s171 220),(.str s171 221),(.str s164 222),(.int (.ofNat 7) 0),(.int (.ofNat 0) 0),(.int (.ofNat 0) 0),(.int (.ofNat 0) 0),(.int (.ofNat 0) 0),(.ref 38),(.bool .false),(.int (.ofNat 181) 0),(.ref 39),.none,.none,.none,.none,(.int (.ofNat 223) 0),(.int (.ofNat 7) 0),(.str s164 224)]⟩),⟨[]⟩⟩
noncomputable def o41 (p : Program) (P : Params) : Obj := ⟨(.type "frame"),.none,.plain,⟨[(.some (.ref 40)),(.some (.ref 3)),(.some (.ref 37)),.none,(.some (.str s173 187)),.none,(.some (.ref 0))]⟩⟩
noncomputable def o42 (p : Program) (P : Params) : Obj := ⟨(.type "tuple"),.none,(.seq ⟨[]⟩ 0),⟨[]⟩⟩
noncomputable def o43 (p : Program) (P : Params) : Obj := ⟨(.type "dict"),.none,(.dict ⟨[⟨(PyData.keyHash P s172),(.str s172 225),(.str s173 187)⟩,⟨(PyData.keyHash P s175),(.str s175 229),(.int (.ofNat 7) 228)⟩,⟨(PyData.keyHash P s177),(.str s177 230),(.ref 42)⟩,⟨(PyData.keyHash P s2),(.str s2 231),.none⟩]⟩ 2),⟨[]⟩⟩
noncomputable def o44 (p : Program) (P : Params) : Obj := ⟨(.type "type"),.none,(.cls ⟨s171,[(.ref 31)],[(.ref 44),(.ref 31),(.type "Exception"),(.type "BaseException"),(.type "object")],43,s171,.true,[],[],.false,.none,.false⟩),⟨[(.some (.ref 35)),.none,(.some (.str s171 218)),(.some (.str s171 226)),(.some (.builtin "Exception.__new__")),(.some (.bool .true))]⟩⟩
noncomputable def o45 (p : Program) (P : Params) : Obj := ⟨(.type "super"),.none,(.fields ⟨[(.ref 44),(.ref 44),(.ref 44)]⟩),⟨[]⟩⟩
noncomputable def o46 (p : Program) (P : Params) : Obj := ⟨(.type "builtin_function_or_method"),.none,(.fields ⟨[(.builtin "object.__init_subclass__"),(.ref 44)]⟩),⟨[]⟩⟩
noncomputable def o3_4 (p : Program) (P : Params) : Obj := ⟨(.type "dict"),.none,(.dict ⟨[⟨(PyData.keyHash P s0),(.str s0 165),(.str s169 234)⟩,⟨(PyData.keyHash P s2),(.str s2 166),.none⟩,⟨(PyData.keyHash P s3),(.str s3 167),.none⟩,⟨(PyData.keyHash P s4),(.str s4 168),(.builtin "__main__.__loader__#opaque")⟩,⟨(PyData.keyHash P s5),(.str s5 169),.none⟩,⟨(PyData.keyHash P s161),(.str s161 170),(.ref 6)⟩,⟨(PyData.keyHash P s162),(.str s162 171),(.ref 4)⟩,⟨(PyData.keyHash P s163),(.str s163 173),(.str s164 172)⟩,⟨(PyData.keyHash P s165),(.str s165 174),.none⟩,⟨(PyData.keyHash P s170),(.str s170 217),(.ref 31)⟩,⟨(PyData.keyHash P s171),(.str s171 233),(.ref 44)⟩,⟨(PyData.keyHash P s182),(.str s182 671),(.ref 47)⟩]⟩ 12),⟨[]⟩⟩
noncomputable def o47 (p : Program) (P : Params) : Obj := ⟨(.type "dict"),.none,(.dict ⟨[⟨(PyData.keyHash P s183),(.str s183 236),(.ref 48)⟩,⟨(PyData.keyHash P s184),(.str s184 241),(.ref 49)⟩,⟨(PyData.keyHash P s185),(.str s185 246),(.ref 50)⟩,⟨(PyData.keyHash P s186),(.str s186 251),(.ref 51)⟩,⟨(PyData.keyHash P s187),(.str s187 256),(.ref 52)⟩,⟨(PyData.keyHash P s74),(.str s74 261),(.ref 53)⟩,⟨(PyData.keyHash P s188),(.str s188 266),(.ref 54)⟩,⟨(PyData.keyHash P s189),(.str s189 271),(.ref 55)⟩,⟨(PyData.keyHash P s190),(.str s190 276),(.ref 56)⟩,⟨(PyData.keyHash P s191),(.str s191 281),(.ref 57)⟩,⟨(PyData.keyHash P s192),(.str s192 286),(.ref 58)⟩,⟨(PyData.keyHash P s193),(.str s193 291),(.ref 59)⟩,⟨(PyData.keyHash P s194),(.str s194 296),(.ref 60)⟩,⟨(PyData.keyHash P s195),(.str s195 301),(.ref 61)⟩,⟨(PyData.keyHash P s196),(.str s196 306),(.ref 62)⟩,⟨(PyData.keyHash P s197),(.str s197 311),(.ref 63)⟩,⟨(PyData.keyHash P s198),(.str s198 316),(.ref 64)⟩,⟨(PyData.keyHash P s199),(.str s199 321),(.ref 66)⟩,⟨(PyData.keyHash P s200),(.str s200 326),(.ref 67)⟩,⟨(PyData.keyHash P s201),(.str s201 331),(.ref 68)⟩,⟨(PyData.keyHash P s202),(.str s202 336),(.ref 69)⟩,⟨(PyData.keyHash P s203),(.str s203 341),(.ref 70)⟩,⟨(PyData.keyHash P s204),(.str s204 346),(.ref 71)⟩,⟨(PyData.keyHash P s205),(.str s205 351),(.ref 72)⟩,⟨(PyData.keyHash P s206),(.str s206 356),(.ref 73)⟩,⟨(PyData.keyHash P s207),(.str s207 361),(.ref 74)⟩,⟨(PyData.keyHash P s208),(.str s208 366),(.ref 75)⟩,⟨(PyData.keyHash P s209),(.str s209 371),(.ref 76)⟩,⟨(PyData.keyHash P s210),(.str s210 376),(.ref 77)⟩,⟨(PyData.keyHash P s211),(.str s211 381),(.ref 78)⟩,⟨(PyData.keyHash P s212),(.str s212 386),(.ref 79)⟩,⟨(PyData.keyHash P s213),(.str s213 391),(.ref 80)⟩,⟨(PyData.keyHash P s214),(.str s214 396),(.ref 81)⟩,⟨(PyData.keyHash P s215),(.str s215 401),(.ref 82)⟩,⟨(PyData.keyHash P s216),(.str s216 406),(.ref 84)⟩,⟨(PyData.keyHash P s217),(.str s217 411),(.ref 85)⟩,⟨(PyData.keyHash P s218),(.str s218 416),(.ref 86)⟩,⟨(PyData.keyHash P s219),(.str s219 421),(.ref 87)⟩,⟨(PyData.keyHash P s220),(.str s220 426),(.ref 88)⟩,⟨(PyData.keyHash P s221),(.str s221 431),(.ref 89)⟩,⟨(PyData.keyHash P s222),(.str s222 436),(.ref 90)⟩,⟨(PyData.keyHash P s223),(.str s223 441),(.ref 91)⟩,⟨(PyData.keyHash P s224),(.str s224 446),(.ref 92)⟩,⟨(PyData.keyHash P s225),(.str s225 451),(.ref 93)⟩,⟨(PyData.keyHash P s226),(.str s226 456),(.ref 94)⟩,⟨(PyData.keyHash P s227),(.str s227 461),(.ref 95)⟩,⟨(PyData.keyHash P s228),(.str s228 466),(.ref 96)⟩,⟨(PyData.keyHash P s45),(.str s45 471),(.ref 97)⟩,⟨(PyData.keyHash P s229),(.str s229 476),(.ref 98)⟩,⟨(PyData.keyHash P s230),(.str s230 481),(.ref 99)⟩,⟨(PyData.keyHash P s231),(.str s231 486),(.ref 100)⟩,⟨(PyData.keyHash P s232),(.str s232 491),(.ref 102)⟩,⟨(PyData.keyHash P s233),(.str s233 496),(.ref 103)⟩,⟨(PyData.keyHash P s234),(.str s234 501),(.ref 104)⟩,⟨(PyData.keyHash P s235),(.str s235 506),(.ref 105)⟩,⟨(PyData.keyHash P s236),(.str s236 511),(.ref 106)⟩,⟨(PyData.keyHash P s237),(.str s237 516),(.ref 107)⟩,⟨(PyData.keyHash P s238),(.str s238 521),(.ref 108)⟩,⟨(PyData.keyHash P s239),(.str s239 526),(.ref 109)⟩,⟨(PyData.keyHash P s240),(.str s240 531),(.ref 110)⟩,⟨(PyData.keyHash P s241),(.str s241 536),(.ref 111)⟩,⟨(PyData.keyHash P s242),(.str s242 541),(.ref 112)⟩,⟨(PyData.keyHash P s243),(.str s243 546),(.ref 113)⟩,⟨(PyData.keyHash P s244),(.str s244 551),(.ref 114)⟩,⟨(PyData.keyHash P s245),(.str s245 556),(.ref 115)⟩,⟨(PyData.keyHash P s246),(.str s246 561),(.ref 116)⟩,⟨(PyData.keyHash P s247),(.str s247 566),(.ref 117)⟩,⟨(PyData.keyHash P s248),(.str s248 571),(.ref 118)⟩,⟨(PyData.keyHash P s249),(.str s249 576),(.ref 120)⟩,⟨(PyData.keyHash P s250),(.str s250 581),(.ref 121)⟩,⟨(PyData.keyHash P s251),(.str s251 586),(.ref 122)⟩,⟨(PyData.keyHash P s252),(.str s252 591),(.ref 123)⟩,⟨(PyData.keyHash P s253),(.str s253 596),(.ref 124)⟩,⟨(PyData.keyHash P s254),(.str s254 601),(.ref 125)⟩,⟨(PyData.keyHash P s255),(.str s255 606),(.ref 126)⟩,⟨(PyData.keyHash P s256),(.str s256 611),(.ref 127)⟩,⟨(PyData.keyHash P s257),(.str s257 616),(.ref 128)⟩,⟨(PyData.keyHash P s258),(.str s258 621),(.ref 129)⟩,⟨(PyData.keyHash P s259),(.str s259 626),(.ref 130)⟩,⟨(PyData.keyHash P s153),(.str s153 631),(.ref 131)⟩,⟨(PyData.keyHash P s260),(.str s260 636),(.ref 132)⟩,⟨(PyData.keyHash P s261),(.str s261 641),(.ref 133)⟩,⟨(PyData.keyHash P s262),(.str s262 646),(.ref 134)⟩,⟨(PyData.keyHash P s263),(.str s263 651),(.ref 135)⟩,⟨(PyData.keyHash P s264),(.str s264 656),(.ref 136)⟩,⟨(PyData.keyHash P s265),(.str s265 661),(.ref 138)⟩,⟨(PyData.keyHash P s266),(.str s266 665),(.ref 139)⟩]⟩ 87),⟨[]⟩⟩
noncomputable def o48 (p : Program) (P : Params) : Obj := ⟨(.type "tuple"),.none,(.seq ⟨[(.int (.ofNat 0) 237),(.int (.ofNat 1) 238),(.str s267 239)]⟩ 0),⟨[]⟩⟩
noncomputable def o49 (p : Program) (P : Params) : Obj := ⟨(.type "tuple"),.none,(.seq ⟨[(.int (.ofNat 0) 242),(.int (.ofNat 1) 243),(.str s268 244)]⟩ 0),⟨[]⟩⟩
noncomputable def o50 (p : Program) (P : Params) : Obj := ⟨(.type "tuple"),.none,(.seq ⟨[(.int (.ofNat 0) 247),(.int (.ofNat 1) 248),(.str s267 249)]⟩ 0),⟨[]⟩⟩
noncomputable def o51 (p : Program) (P : Params) : Obj := ⟨(.type "tuple"),.none,(.seq ⟨[(.int (.ofNat 1) 252),(.int (.ofNat 1) 253),(.str s267 254)]⟩ 0),⟨[]⟩⟩
noncomputable def o52 (p : Program) (P : Params) : Obj := ⟨(.type "tuple"),.none,(.seq ⟨[(.int (.ofNat 1) 257),(.int (.ofNat 1) 258),(.str s269 259)]⟩ 0),⟨[]⟩⟩
noncomputable def o53 (p : Program) (P : Params) : Obj := ⟨(.type "tuple"),.none,(.seq ⟨[(.int (.ofNat 3) 262),(.int (.ofNat 1) 263),(.str s270 264)]⟩ 0),⟨[]⟩⟩
noncomputable def o54 (p : Program) (P : Params) : Obj := ⟨(.type "tuple"),.none,(.seq ⟨[(.int (.ofNat 1) 267),(.int (.ofNat 1) 268),(.str s270 269)]⟩ 0),⟨[]⟩⟩
noncomputable def o55 (p : Program) (P : Params) : Obj := ⟨(.type "tuple"),.none,(.seq ⟨[(.int (.ofNat 0) 272),(.int (.ofNat 1) 273),(.str s271 274)]⟩ 0),⟨[]⟩⟩
noncomputable def o56 (p : Program) (P : Params) : Obj := ⟨(.type "tuple"),.none,(.seq ⟨[(.int (.ofNat 1) 277),(.int (.ofNat 1) 278),(.str s268 279)]⟩ 0),⟨[]⟩⟩
noncomputable def o57 (p : Program) (P : Params) : Obj := ⟨(.type "tuple"),.none,(.seq ⟨[(.int (.ofNat 1) 282),(.int (.ofNat 1) 283),(.str s268 284)]⟩ 0),⟨[]⟩⟩
noncomputable def o58 (p : Program) (P : Params) : Obj := ⟨(.type "tuple"),.none,(.seq ⟨[(.int (.ofNat 1) 287),(.int (.ofNat 1) 288),(.str s267 289)]⟩ 0),⟨[]⟩⟩
noncomputable def o59 (p : Program) (P : Params) : Obj := ⟨(.type "tuple"),.none,(.seq ⟨[(.int (.ofNat 1) 292),(.int (.ofNat 1) 293),(.str s268 294)]⟩ 0),⟨[]⟩⟩
noncomputable def o60 (p : Program) (P : Params) : Obj := ⟨(.type "tuple"),.none,(.seq ⟨[(.int (.ofNat 1) 297),(.int (.ofNat 1) 298),(.str s272 299)]⟩ 0),⟨[]⟩⟩
noncomputable def o61 (p : Program) (P : Params) : Obj := ⟨(.type "tuple"),.none,(.seq ⟨[(.int (.ofNat 0) 302),(.int (.ofNat 1) 303),(.str s272 304)]⟩ 0),⟨[]⟩⟩
noncomputable def o62 (p : Program) (P : Params) : Obj := ⟨(.type "tuple"),.none,(.seq ⟨[(.int (.ofNat 1) 307),(.int (.ofNat 1) 308),(.str s270 309)]⟩ 0),⟨[]⟩⟩
noncomputable def o63 (p : Program) (P : Params) : Obj := ⟨(.type "tuple"),.none,(.seq ⟨[(.int (.ofNat 0) 312),(.int (.ofNat 1) 313),(.str s267 314)]⟩ 0),⟨[]⟩⟩
noncomputable def o64 (p : Program) (P : Params) : Obj := ⟨(.type "tuple"),.none,(.seq ⟨[(.int (.ofNat 1) 317),(.int (.ofNat 1) 318),(.str s270 319)]⟩ 0),⟨[]⟩⟩
noncomputable def o65 (p : Program) (P : Params) : Obj := ⟨(.type "dict"),.none,(.dict ⟨[⟨(PyData.keyHash P s199),(.str s199 321),(.ref 66)⟩,⟨(PyData.keyHash P s200),(.str s200 326),(.ref 67)⟩,⟨(PyData.keyHash P s201),(.str s201 331),(.ref 68)⟩,⟨(PyData.keyHash P s202),(.str s202 336),(.ref 69)⟩,⟨(PyData.keyHash P s203),(.str s203 341),(.ref 70)⟩,⟨(PyData.keyHash P s204),(.str s204 346),(.ref 71)⟩,⟨(PyData.keyHash P s205),(.str s205 351),(.ref 72)⟩,⟨(PyData.keyHash P s206),(.str s206 356),(.ref 73)⟩,⟨(PyData.keyHash P s207),(.str s207 361),(.ref 74)⟩,⟨(PyData.keyHash P s208),(.str s208 366),(.ref 75)⟩,⟨(PyData.keyHash P s209),(.str s209 371),(.ref 76)⟩,⟨(PyData.keyHash P s210),(.str s210 376),(.ref 77)⟩,⟨(PyData.keyHash P s211),(.str s211 381),(.ref 78)⟩,⟨(PyData.keyHash P s212),(.str s212 386),(.ref 79)⟩,⟨(PyData.keyHash P s213),(.str s213 391),(.ref 80)⟩,⟨(PyData.keyHash P s214),(.str s214 396),(.ref 81)⟩,⟨(PyData.keyHash P s215),(.str s215 401),(.ref 82)⟩]⟩ 17),⟨[]⟩⟩
noncomputable def o66 (p : Program) (P : Params) : Obj := ⟨(.type "tuple"),.none,(.seq ⟨[(.int (.ofNat 2) 322),(.int (.ofNat 1) 323),(.str s270 324)]⟩ 0),⟨[]⟩⟩
noncomputable def o67 (p : Program) (P : Params) : Obj := ⟨(.type "tuple"),.none,(.seq ⟨[(.int (.ofNat 1) 327),(.int (.ofNat 1) 328),(.str s270 329)]⟩ 0),⟨[]⟩⟩
noncomputable def o68 (p : Program) (P : Params) : Obj := ⟨(.type "tuple"),.none,(.seq ⟨[(.int (.ofNat 0) 332),(.int (.ofNat 1) 333),(.str s273 334)]⟩ 0),⟨[]⟩⟩
noncomputable def o69 (p : Program) (P : Params) : Obj := ⟨(.type "tuple"),.none,(.seq ⟨[(.int (.ofNat 0) 337),(.int (.ofNat 1) 338),(.str s272 339)]⟩ 0),⟨[]⟩⟩
noncomputable def o70 (p : Program) (P : Params) : Obj := ⟨(.type "tuple"),.none,(.seq ⟨[(.int (.ofNat 1) 342),(.int (.ofNat 1) 343),(.str s272 344)]⟩ 0),⟨[]⟩⟩
noncomputable def o71 (p : Program) (P : Params) : Obj := ⟨(.type "tuple"),.none,(.seq ⟨[(.int (.ofNat 0) 347),(.int (.ofNat 1) 348),(.str s272 349)]⟩ 0),⟨[]⟩⟩
noncomputable def o72 (p : Program) (P : Params) : Obj := ⟨(.type "tuple"),.none,(.seq ⟨[(.int (.ofNat 0) 352),(.int (.ofNat 1) 353),(.str s272 354)]⟩ 0),⟨[]⟩⟩
noncomputable def o73 (p : Program) (P : Params) : Obj := ⟨(.type "tuple"),.none,(.seq ⟨[(.int (.ofNat 1) 357),(.int (.ofNat 1) 358),(.str s274 359)]⟩ 0),⟨[]⟩⟩
noncomputable def o74 (p : Program) (P : Params) : Obj := ⟨(.type "tuple"),.none,(.seq ⟨[(.int (.ofNat 0) 362),(.int (.ofNat 1) 363),(.str s268 364)]⟩ 0),⟨[]⟩⟩
noncomputable def o75 (p : Program) (P : Params) : Obj := ⟨(.type "tuple"),.none,(.seq ⟨[(.int (.ofNat 1) 367),(.int (.ofNat 1) 368),(.str s267 369)]⟩ 0),⟨[]⟩⟩
noncomputable def o76 (p : Program) (P : Params) : Obj := ⟨(.type "tuple"),.none,(.seq ⟨[(.int (.ofNat 1) 372),(.int (.ofNat 1) 373),(.str s269 374)]⟩ 0),⟨[]⟩⟩
noncomputable def o77 (p : Program) (P : Params) : Obj := ⟨(.type "tuple"),.none,(.seq ⟨[(.int (.ofNat 3) 377),(.int (.ofNat 1) 378),(.str s270 379)]⟩ 0),⟨[]⟩⟩
noncomputable def o78 (p : Program) (P : Params) : Obj := ⟨(.type "tuple"),.none,(.seq ⟨[(.int (.ofNat 1) 382),(.int (.ofNat 1) 383),(.str s270 384)]⟩ 0),⟨[]⟩⟩
noncomputable def o79 (p : Program) (P : Params) : Obj := ⟨(.type "tuple"),.none,(.seq ⟨[(.int (.ofNat 1) 387),(.int (.ofNat 1) 388),(.str s270 389)]⟩ 0),⟨[]⟩⟩
noncomputable def o80 (p : Program) (P : Params) : Obj := ⟨(.type "tuple"),.none,(.seq ⟨[(.int (.ofNat 1) 392),(.int (.ofNat 1) 393),(.str s267 394)]⟩ 0),⟨[]⟩⟩
noncomputable def o81 (p : Program) (P : Params) : Obj := ⟨(.type "tuple"),.none,(.seq ⟨[(.int (.ofNat 1) 397),(.int (.ofNat 0) 398),(.str s270 399)]⟩ 0),⟨[]⟩⟩
noncomputable def o82 (p : Program) (P : Params) : Obj := ⟨(.type "tuple"),.none,(.seq ⟨[(.int (.ofNat 1) 402),(.int (.ofNat 1) 403),(.str s270 404)]⟩ 0),⟨[]⟩⟩
noncomputable def o83 (p : Program) (P : Params) : Obj := ⟨(.type "dict"),.none,(.dict ⟨[⟨(PyData.keyHash P s216),(.str s216 406),(.ref 84)⟩,⟨(PyData.keyHash P s217),(.str s217 411),(.ref 85)⟩,⟨(PyData.keyHash P s218),(.str s218 416),(.ref 86)⟩,⟨(PyData.keyHash P s219),(.str s219 421),(.ref 87)⟩,⟨(PyData.keyHash P s220),(.str s220 426),(.ref 88)⟩,⟨(PyData.keyHash P s221),(.str s221 431),(.ref 89)⟩,⟨(PyData.keyHash P s222),(.str s222 436),(.ref 90)⟩,⟨(PyData.keyHash P s223),(.str s223 441),(.ref 91)⟩,⟨(PyData.keyHash P s224),(.str s224 446),(.ref 92)⟩,⟨(PyData.keyHash P s225),(.str s225 451),(.ref 93)⟩,⟨(PyData.keyHash P s226),(.str s226 456),(.ref 94)⟩,⟨(PyData.keyHash P s227),(.str s227 461),(.ref 95)⟩,⟨(PyData.keyHash P s228),(.str s228 466),(.ref 96)⟩,⟨(PyData.keyHash P s45),(.str s45 471),(.ref 97)⟩,⟨(PyData.keyHash P s229),(.str s229 476),(.ref 98)⟩,⟨(PyData.keyHash P s230),(.str s230 481),(.ref 99)⟩,⟨(PyData.keyHash P s231),(.str s231 486),(.ref 100)⟩]⟩ 17),⟨[]⟩⟩
noncomputable def o84 (p : Program) (P : Params) : Obj := ⟨(.type "tuple"),.none,(.seq ⟨[(.int (.ofNat 1) 407),(.int (.ofNat 1) 408),(.str s270 409)]⟩ 0),⟨[]⟩⟩
noncomputable def o85 (p : Program) (P : Params) : Obj := ⟨(.type "tuple"),.none,(.seq ⟨[(.int (.ofNat 1) 412),(.int (.ofNat 1) 413),(.str s270 414)]⟩ 0),⟨[]⟩⟩
noncomputable def o86 (p : Program) (P : Params) : Obj := ⟨(.type "tuple"),.none,(.seq ⟨[(.int (.ofNat 0) 417),(.int (.ofNat 0) 418),(.str s275 419)]⟩ 0),⟨[]⟩⟩
noncomputable def o87 (p : Program) (P : Params) : Obj := ⟨(.type "tuple"),.none,(.seq ⟨[(.int (.ofNat 1) 422),(.int (.ofNat 0) 423),(.str s275 424)]⟩ 0),⟨[]⟩⟩
noncomputable def o88 (p : Program) (P : Params) : Obj := ⟨(.type "tuple"),.none,(.seq ⟨[(.int (.ofNat 1) 427),(.int (.ofNat 0) 428),(.str s275 429)]⟩ 0),⟨[]⟩⟩
noncomputable def o89 (p : Program) (P : Params) : Obj := ⟨(.type "tuple"),.none,(.seq ⟨[(.int (.ofNat 1) 432),(.int (.ofNat 0) 433),(.str s275 434)]⟩ 0),⟨[]⟩⟩
noncomputable def o90 (p : Program) (P : Params) : Obj := ⟨(.type "tuple"),.none,(.seq ⟨[(.int (.ofNat 1) 437),(.int (.ofNat 0) 438),(.str s275 439)]⟩ 0),⟨[]⟩⟩
noncomputable def o91 (p : Program) (P : Params) : Obj := ⟨(.type "tuple"),.none,(.seq ⟨[(.int (.ofNat 0) 442),(.int (.ofNat 0) 443),(.str s267 444)]⟩ 0),⟨[]⟩⟩
noncomputable def o92 (p : Program) (P : Params) : Obj := ⟨(.type "tuple"),.none,(.seq ⟨[(.int (.ofNat 0) 447),(.int (.ofNat 0) 448),(.str s267 449)]⟩ 0),⟨[]⟩⟩
noncomputable def o93 (p : Program) (P : Params) : Obj := ⟨(.type "tuple"),.none,(.seq ⟨[(.int (.ofNat 2) 452),(.int (.ofNat 0) 453),(.str s270 454)]⟩ 0),⟨[]⟩⟩
noncomputable def o94 (p : Program) (P : Params) : Obj := ⟨(.type "tuple"),.none,(.seq ⟨[(.int (.ofNat 1) 457),(.int (.ofNat 0) 458),(.str s276 459)]⟩ 0),⟨[]⟩⟩
noncomputable def o95 (p : Program) (P : Params) : Obj := ⟨(.type "tuple"),.none,(.seq ⟨[(.int (.ofNat 2) 462),(.int (.ofNat 1) 463),(.str s277 464)]⟩ 0),⟨[]⟩⟩
noncomputable def o96 (p : Program) (P : Params) : Obj := ⟨(.type "tuple"),.none,(.seq ⟨[(.int (.ofNat 1) 467),(.int (.ofNat 0) 468),(.str s277 469)]⟩ 0),⟨[]⟩⟩
noncomputable def o97 (p : Program) (P : Params) : Obj := ⟨(.type "tuple"),.none,(.seq ⟨[(.int (.ofNat 0) 472),(.int (.ofNat 0) 473),(.str s267 474)]⟩ 0),⟨[]⟩⟩
noncomputable def o98 (p : Program) (P : Params) : Obj := ⟨(.type "tuple"),.none,(.seq ⟨[(.int (.ofNat 0) 477),(.int (.ofNat 0) 478),(.str s267 479)]⟩ 0),⟨[]⟩⟩
noncomputable def o99 (p : Program) (P : Params) : Obj := ⟨(.type "tuple"),.none,(.seq ⟨[(.int (.ofNat 1) 482),(.int (.ofNat 0) 483),(.str s270 484)]⟩ 0),⟨[]⟩⟩
noncomputable def o100 (p : Program) (P : Params) : Obj := ⟨(.type "tuple"),.none,(.seq ⟨[(.int (.ofNat 0) 487),(.int (.ofNat 0) 488),(.str s267 489)]⟩ 0),⟨[]⟩⟩
noncomputable def o101 (p : Program) (P : Params) : Obj := ⟨(.type "dict"),.none,(.dict ⟨[⟨(PyData.keyHash P s232),(.str s232 491),(.ref 102)⟩,⟨(PyData.keyHash P s233),(.str s233 496),(.ref 103)⟩,⟨(PyData.keyHash P s234),(.str s234 501),(.ref 104)⟩,⟨(PyData.keyHash P s235),(.str s235 506),(.ref 105)⟩,⟨(PyData.keyHash P s236),(.str s236 511),(.ref 106)⟩,⟨(PyData.keyHash P s237),(.str s237 516),(.ref 107)⟩,⟨(PyData.keyHash P s238),(.str s238 521),(.ref 108)⟩,⟨(PyData.keyHash P s239),(.str s239 526),(.ref 109)⟩,⟨(PyData.keyHash P s240),(.str s240 531),(.ref 110)⟩,⟨(PyData.keyHash P s241),(.str s241 536),(.ref 111)⟩,⟨(PyData.keyHash P s242),(.str s242 541),(.ref 112)⟩,⟨(PyData.keyHash P s243),(.str s243 546),(.ref 113)⟩,⟨(PyData.keyHash P s244),(.str s244 551),(.ref 114)⟩,⟨(PyData.keyHash P s245),(.str s245 556),(.ref 115)⟩,⟨(PyData.keyHash P s246),(.str s246 561),(.ref 116)⟩,⟨(PyData.keyHash P s247),(.str s247 566),(.ref 117)⟩,⟨(PyData.keyHash P s248),(.str s248 571),(.ref 118)⟩]⟩ 17),⟨[]⟩⟩
noncomputable def o102 (p : Program) (P : Params) : Obj := ⟨(.type "tuple"),.none,(.seq ⟨[(.int (.ofNat 0) 492),(.int (.ofNat 0) 493),(.str s276 494)]⟩ 0),⟨[]⟩⟩
noncomputable def o103 (p : Program) (P : Params) : Obj := ⟨(.type "tuple"),.none,(.seq ⟨[(.int (.ofNat 0) 497),(.int (.ofNat 0) 498),(.str s270 499)]⟩ 0),⟨[]⟩⟩
noncomputable def o104 (p : Program) (P : Params) : Obj := ⟨(.type "tuple"),.none,(.seq ⟨[(.int (.ofNat 0) 502),(.int (.ofNat 0) 503),(.str s270 504)]⟩ 0),⟨[]⟩⟩
noncomputable def o105 (p : Program) (P : Params) : Obj := ⟨(.type "tuple"),.none,(.seq ⟨[(.int (.ofNat 0) 507),(.int (.ofNat 0) 508),(.str s270 509)]⟩ 0),⟨[]⟩⟩
noncomputable def o106 (p : Program) (P : Params) : Obj := ⟨(.type "tuple"),.none,(.seq ⟨[(.int (.ofNat 0) 512),(.int (.ofNat 0) 513),(.str s270 514)]⟩ 0),⟨[]⟩⟩
noncomputable def o107 (p : Program) (P : Params) : Obj := ⟨(.type "tuple"),.none,(.seq ⟨[(.int (.ofNat 0) 517),(.int (.ofNat 0) 518),(.str s270 519)]⟩ 0),⟨[]⟩⟩
noncomputable def o108 (p : Program) (P : Params) : Obj := ⟨(.type "tuple"),.none,(.seq ⟨[(.int (.ofNat 0) 522),(.int (.ofNat 0) 523),(.str s270 524)]⟩ 0),⟨[]⟩⟩
noncomputable def o109 (p : Program) (P : Params) : Obj := ⟨(.type "tuple"),.none,(.seq ⟨[(.int (.ofNat 0) 527),(.int (.ofNat 0) 528),(.str s270 529)]⟩ 0),⟨[]⟩⟩
noncomputable def o110 (p : Program) (P : Params) : Obj := ⟨(.type "tuple"),.none,(.seq ⟨[(.int (.ofNat 0) 532),(.int (.ofNat 0) 533),(.str s270 534)]⟩ 0),⟨[]⟩⟩
noncomputable def o111 (p : Program) (P : Params) : Obj := ⟨(.type "tuple"),.none,(.seq ⟨[(.int (.ofNat 1) 537),(.int (.ofNat 0) 538),(.str s270 539)]⟩ 0),⟨[]⟩⟩
noncomputable def o112 (p : Program) (P : Params) : Obj := ⟨(.type "tuple"),.none,(.seq ⟨[(.int (.ofNat 0) 542),(.int (.ofNat 1) 543),(.str s267 544)]⟩ 0),⟨[]⟩⟩
noncomputable def o113 (p : Program) (P : Params) : Obj := ⟨(.type "tuple"),.none,(.seq ⟨[(.int (.ofNat 0) 547),(.int (.ofNat 1) 548),(.str s268 549)]⟩ 0),⟨[]⟩⟩
noncomputable def o114 (p : Program) (P : Params) : Obj := ⟨(.type "tuple"),.none,(.seq ⟨[(.int (.ofNat 1) 552),(.int (.ofNat 0) 553),(.str s269 554)]⟩ 0),⟨[]⟩⟩
noncomputable def o115 (p : Program) (P : Params) : Obj := ⟨(.type "tuple"),.none,(.seq ⟨[(.int (.ofNat 0) 557),(.int (.ofNat 0) 558),(.str s272 559)]⟩ 0),⟨[]⟩⟩
noncomputable def o116 (p : Program) (P : Params) : Obj := ⟨(.type "tuple"),.none,(.seq ⟨[(.int (.ofNat 0) 562),(.int (.ofNat 1) 563),(.str s267 564)]⟩ 0),⟨[]⟩⟩
noncomputable def o117 (p : Program) (P : Params) : Obj := ⟨(.type "tuple"),.none,(.seq ⟨[(.int (.ofNat 2) 567),(.int (.ofNat 0) 568),(.str s267 569)]⟩ 0),⟨[]⟩⟩
noncomputable def o118 (p : Program) (P : Params) : Obj := ⟨(.type "tuple"),.none,(.seq ⟨[(.int (.ofNat 1) 572),(.int (.ofNat 0) 573),(.str s267 574)]⟩ 0),⟨[]⟩⟩
noncomputable def o119 (p : Program) (P : Params) : Obj := ⟨(.type "dict"),.none,(.dict ⟨[⟨(PyData.keyHash P s249),(.str s249 576),(.ref 120)⟩,⟨(PyData.keyHash P s250),(.str s250 581),(.ref 121)⟩,⟨(PyData.keyHash P s251),(.str s251 586),(.ref 122)⟩,⟨(PyData.keyHash P s252),(.str s252 591),(.ref 123)⟩,⟨(PyData.keyHash P s253),(.str s253 596),(.ref 124)⟩,⟨(PyData.keyHash P s254),(.str s254 601),(.ref 125)⟩,⟨(PyData.keyHash P s255),(.str s255 606),(.ref 126)⟩,⟨(PyData.keyHash P s256),(.str s256 611),(.ref 127)⟩,⟨(PyData.keyHash P s257),(.str s257 616),(.ref 128)⟩,⟨(PyData.keyHash P s258),(.str s258 621),(.ref 129)⟩,⟨(PyData.keyHash P s259),(.str s259 626),(.ref 130)⟩,⟨(PyData.keyHash P s153),(.str s153 631),(.ref 131)⟩,⟨(PyData.keyHash P s260),(.str s260 636),(.ref 132)⟩,⟨(PyData.keyHash P s261),(.str s261 641),(.ref 133)⟩,⟨(PyData.keyHash P s262),(.str s262 646),(.ref 134)⟩,⟨(PyData.keyHash P s263),(.str s263 651),(.ref 135)⟩,⟨(PyData.keyHash P s264),(.str s264 656),(.ref 136)⟩]⟩ 17),⟨[]⟩⟩
noncomputable def o120 (p : Program) (P : Params) : Obj := ⟨(.type "tuple"),.none,(.seq ⟨[(.int (.ofNat 0) 577),(.int (.ofNat 0) 578),(.str s268 579)]⟩ 0),⟨[]⟩⟩
noncomputable def o121 (p : Program) (P : Params) : Obj := ⟨(.type "tuple"),.none,(.seq ⟨[(.int (.ofNat 0) 582),(.int (.ofNat 0) 583),(.str s267 584)]⟩ 0),⟨[]⟩⟩
noncomputable def o122 (p : Program) (P : Params) : Obj := ⟨(.type "tuple"),.none,(.seq ⟨[(.int (.ofNat 0) 587),(.int (.ofNat 0) 588),(.str s267 589)]⟩ 0),⟨[]⟩⟩
noncomputable def o123 (p : Program) (P : Params) : Obj := ⟨(.type "tuple"),.none,(.seq ⟨[(.int (.ofNat 0) 592),(.int (.ofNat 0) 593),(.str s268 594)]⟩ 0),⟨[]⟩⟩
noncomputable def o124 (p : Program) (P : Params) : Obj := ⟨(.type "tuple"),.none,(.seq ⟨[(.int (.ofNat 0) 597),(.int (.ofNat 0) 598),(.str s268 599)]⟩ 0),⟨[]⟩⟩
noncomputable def o125 (p : Program) (P : Params) : Obj := ⟨(.type "tuple"),.none,(.seq ⟨[(.int (.ofNat 1) 602),(.int (.ofNat 0) 603),(.str s267 604)]⟩ 0),⟨[]⟩⟩
noncomputable def o126 (p : Program) (P : Params) : Obj := ⟨(.type "tuple"),.none,(.seq ⟨[(.int (.ofNat 0) 607),(.int (.ofNat 0) 608),(.str s270 609)]⟩ 0),⟨[]⟩⟩
noncomputable def o127 (p : Program) (P : Params) : Obj := ⟨(.type "tuple"),.none,(.seq ⟨[(.int (.ofNat 1) 612),(.int (.ofNat 0) 613),(.str s278 614)]⟩ 0),⟨[]⟩⟩
noncomputable def o128 (p : Program) (P : Params) : Obj := ⟨(.type "tuple"),.none,(.seq ⟨[(.int (.ofNat 1) 617),(.int (.ofNat 0) 618),(.str s279 619)]⟩ 0),⟨[]⟩⟩
noncomputable def o129 (p : Program) (P : Params) : Obj := ⟨(.type "tuple"),.none,(.seq ⟨[(.int (.ofNat 0) 622),(.int (.ofNat 0) 623),(.str s280 624)]⟩ 0),⟨[]⟩⟩
noncomputable def o130 (p : Program) (P : Params) : Obj := ⟨(.type "tuple"),.none,(.seq ⟨[(.int (.ofNat 0) 627),(.int (.ofNat 0) 628),(.str s267 629)]⟩ 0),⟨[]⟩⟩
noncomputable def o131 (p : Program) (P : Params) : Obj := ⟨(.type "tuple"),.none,(.seq ⟨[(.int (.ofNat 0) 632),(.int (.ofNat 1) 633),(.str s270 634)]⟩ 0),⟨[]⟩⟩
noncomputable def o132 (p : Program) (P : Params) : Obj := ⟨(.type "tuple"),.none,(.seq ⟨[(.int (.ofNat 1) 637),(.int (.ofNat 1) 638),(.str s272 639)]⟩ 0),⟨[]⟩⟩
noncomputable def o133 (p : Program) (P : Params) : Obj := ⟨(.type "tuple"),.none,(.seq ⟨[(.int (.ofNat 2) 642),(.int (.ofNat 1) 643),(.str s268 644)]⟩ 0),⟨[]⟩⟩
noncomputable def o134 (p : Program) (P : Params) : Obj := ⟨(.type "tuple"),.none,(.seq ⟨[(.int (.ofNat 1) 647),(.int (.ofNat 1) 648),(.str s267 649)]⟩ 0),⟨[]⟩⟩
noncomputable def o135 (p : Program) (P : Params) : Obj := ⟨(.type "tuple"),.none,(.seq ⟨[(.int (.ofNat 1) 652),(.int (.ofNat 0) 653),(.str s281 654)]⟩ 0),⟨[]⟩⟩
noncomputable def o136 (p : Program) (P : Params) : Obj := ⟨(.type "tuple"),.none,(.seq ⟨[(.int (.ofNat 1) 657),(.int (.ofNat 0) 658),(.str s267 659)]⟩ 0),⟨[]⟩⟩
noncomputable def o137 (p : Program) (P : Params) : Obj := ⟨(.type "dict"),.none,(.dict ⟨[⟨(PyData.keyHash P s265),(.str s265 661),(.ref 138)⟩,⟨(PyData.keyHash P s266),(.str s266 665),(.ref 139)⟩]⟩ 2),⟨[]⟩⟩
noncomputable def o138 (p : Program) (P : Params) : Obj := ⟨(.type "tuple"),.none,(.seq ⟨[(.int (.ofNat 1) 662),(.int (.ofNat 0) 663),(.str s270 664)]⟩ 0),⟨[]⟩⟩
noncomputable def o139 (p : Program) (P : Params) : Obj := ⟨(.type "tuple"),.none,(.seq ⟨[(.int (.ofNat 0) 666),(.int (.ofNat 0) 667),(.str s282 668)]⟩ 0),⟨[]⟩⟩
noncomputable def o3_38 (p : Program) (P : Params) : Obj := ⟨(.type "dict"),.none,(.dict ⟨[⟨(PyData.keyHash P s0),(.str s0 165),(.str s283 918)⟩,⟨(PyData.keyHash P s2),(.str s2 166),.none⟩,⟨(PyData.keyHash P s3),(.str s3 167),.none⟩,⟨(PyData.keyHash P s4),(.str s4 168),(.builtin "__main__.__loader__#opaque")⟩,⟨(PyData.keyHash P s5),(.str s5 169),.none⟩,⟨(PyData.keyHash P s161),(.str s161 170),(.ref 6)⟩,⟨(PyData.keyHash P s162),(.str s162 171),(.ref 4)⟩,⟨(PyData.keyHash P s163),(.str s163 173),(.str s164 172)⟩,⟨(PyData.keyHash P s165),(.str s165 174),.none⟩,⟨(PyData.keyHash P s170),(.str s170 217),(.ref 31)⟩,⟨(PyData.keyHash P s171),(.str s171 233),(.ref 44)⟩,⟨(PyData.keyHash P s182),(.str s182 671),(.ref 47)⟩,⟨(PyData.keyHash P s284),(.str s284 682),(.ref 140)⟩,⟨(PyData.keyHash P s285),(.str s285 696),(.ref 141)⟩,⟨(PyData.keyHash P s286),(.str s286 731),(.ref 158)⟩,⟨(PyData.keyHash P s287),(.str s287 739),(.ref 169)⟩,⟨(PyData.keyHash P s288),(.str s288 750),(.ref 176)⟩,⟨(PyData.keyHash P s289),(.str s289 760),(.ref 183)⟩,⟨(PyData.keyHash P s290),(.str s290 767),(.ref 190)⟩,⟨(PyData.keyHash P s291),(.str s291 778),(.ref 197)⟩,⟨(PyData.keyHash P s292),(.str s292 785),(.ref 204)⟩,⟨(PyData.keyHash P s293),(.str s293 795),(.ref 211)⟩,⟨(PyData.keyHash P s294),(.str s294 807),(.ref 212)⟩,⟨(PyData.keyHash P s295),(.str s295 824),(.ref 213)⟩,⟨(PyData.keyHash P s296),(.str s296 837),(.ref 219)⟩,⟨(PyData.keyHash P s297),(.str s297 847),(.ref 220)⟩,⟨(PyData.keyHash P s298),(.str s298 853),(.ref 221)⟩,⟨(PyData.keyHash P s299),(.str s299 859),(.ref 226)⟩,⟨(PyData.keyHash P s300),(.str s300 865),(.ref 231)⟩,⟨(PyData.keyHash P s301),(.str s301 876),(.ref 238)⟩,⟨(PyData.keyHash P s302),(.str s302 884),(.ref 245)⟩,⟨(PyData.keyHash P s303),(.str s303 899),(.ref 252)⟩,⟨(PyData.keyHash P s304),(.str s304 908),(.ref 259)⟩,⟨(PyData.keyHash P s305),(.str s305 917),(.ref 266)⟩,⟨(PyData.keyHash P s306),(.str s306 921),(.str s307 920)⟩,⟨(PyData.keyHash P s308),(.str s308 925),(.ref 267)⟩,⟨(PyData.keyHash P s309),(.str s309 938),(.ref 268)⟩,⟨(PyData.keyHash P s310),(.str s310 944),(.ref 273)⟩,⟨(PyData.keyHash P s311),(.str s311 952),(.ref 280)⟩,⟨(PyData.keyHash P s312),(.str s312 964),(.ref 287)⟩,⟨(PyData.keyHash P s313),(.str s313 970),(.ref 292)⟩,⟨(PyData.keyHash P s314),(.str s314 981),(.ref 299)⟩,⟨(PyData.keyHash P s315),(.str s315 987),(.ref 304)⟩,⟨(PyData.keyHash P s316),(.str s316 993),(.ref 309)⟩]⟩ 44),⟨[]⟩⟩
noncomputable def o12_38 (p : Program) (P : Params) : Obj := ⟨.none,.none,(.fields ⟨[(.int (.ofNat 2) 0),(.int (.ofNat 0) 0),(.ref 20),(.int (.ofNat 7) 0),(.int (.ofNat 0) 0),(.ref 40),(.int (.ofNat 13) 0),(.int (.ofNat 0) 0),(.ref 147),(.int (.ofNat 21) 0),(.int (.ofNat 0) 0),(.ref 168),(.int (.ofNat 28) 0),(.int (.ofNat 0) 0),(.ref 175),(.int (.ofNat 36) 0),(.int (.ofNat 0) 0),(.ref 182),(.int (.ofNat 45) 0),(.int (.ofNat 0) 0),(.ref 189),(.int (.ofNat 47) 0),(.int (.ofNat 0) 0),(.ref 196),(.int (.ofNat 55) 0),(.int (.ofNat 0) 0),(.ref 203),(.int (.ofNat 63) 0),(.int (.ofNat 0) 0),(.ref 210),(.int (.ofNat 77) 0),(.int (.ofNat 0) 0),(.ref 225),(.int (.ofNat 80) 0),(.int (.ofNat 0) 0),(.ref 230),(.int (.ofNat 92) 0),(.int (.ofNat 0) 0),(.ref 237),(.int (.ofNat 102) 0),(.int (.ofNat 0) 0),(.ref 244),(.int (.ofNat 112) 0),(.int (.ofNat 0) 0),(.ref 251),(.int (.ofNat 128) 0),(.int (.ofNat 0) 0),(.ref 258),(.int (.ofNat 138) 0),(.int (.ofNat 0) 0),(.ref 265),(.int (.ofNat 149) 0),(.int (.ofNat 0) 0),(.ref 279),(.int (.ofNat 154) 0),(.int (.ofNat 0) 0),(.ref 286),(.int (.ofNat 172) 0),(.int (.ofNat 0) 0),(.ref 291),(.int (.ofNat 183) 0),(.int (.ofNat 0) 0),(.ref 298),(.int (.ofNat 196) 0),(.int (.ofNat 0) 0),(.ref 303),(.int (.ofNat 215) 0),(.int (.ofNat 0) 0),(.ref 308)]⟩),⟨[]⟩⟩
noncomputable def o140 (p : Program) (P : Params) : Obj := ⟨(.type "tuple"),.none,(.seq ⟨[(.str s218 672),(.str s226 673),(.str s229 674),(.str s236 675),(.str s237 676),(.str s239 677),(.str s240 678),(.str s241 679),(.str s242 680),(.str s263 681)]⟩ 0),⟨[]⟩⟩
noncomputable def o141 (p : Program) (P : Params) : Obj := ⟨(.type "dict"),.none,(.dict ⟨[⟨(PyData.keyHash P s221),(.str s221 683),(.int (.ofNat 1) 684)⟩,⟨(PyData.keyHash P s222),(.str s222 685),(.int (.ofNat 1) 686)⟩,⟨(PyData.keyHash P s227),(.str s227 687),(.int (.negSucc 0) 689)⟩,⟨(PyData.keyHash P s228),(.str s228 690),(.int (.ofNat 1) 691)⟩]⟩ 4),⟨[]⟩⟩
noncomputable def o142 (p : Program) (P : Params) : Obj := ⟨(.type "tuple"),.none,(.seq ⟨[]⟩ 0),⟨[]⟩⟩
noncomputable def o143 (p : Program) (P : Params) : Obj := ⟨(.type "builtin_function_or_method"),.none,(.fields ⟨[(.builtin "type.__prepare__"),(.type "type")]⟩),⟨[]⟩⟩
noncomputable def o144 (p : Program) (P : Params) : Obj := ⟨(.type "dict"),.none,(.dict ⟨[⟨(PyData.keyHash P s172),(.str s172 704),(.str s169 234)⟩,⟨(PyData.keyHash P s174),(.str s174 706),(.str s286 705)⟩,⟨(PyData.keyHash P s175),(.str s175 708),(.int (.ofNat 13) 707)⟩,⟨(PyData.keyHash P s176),(.str s176 718),(.ref 155)⟩,⟨(PyData.keyHash P s177),(.str s177 724),(.ref 156)⟩]⟩ 5),⟨[]⟩⟩
noncomputable def o145 (p : Program) (P : Params) : Obj := ⟨(.type "tuple"),.none,(.seq ⟨[]⟩ 0),⟨[]⟩⟩
noncomputable def o146 (p : Program) (P : Params) : Obj := ⟨.none,.none,(.fields ⟨[(.int (.ofNat 15) 0),(.int (.ofNat 4) 0),(.ref 154)]⟩),⟨[]⟩⟩
noncomputable def o147 (p : Program) (P : Params) : Obj := ⟨(.type "code"),.none,(.fields ⟨[(.str s286 699),(.str s286 700),(.str s164 701),(.int (.ofNat 13) 0),(.int (.ofNat 0) 0),(.int (.ofNat 0) 0),(.int (.ofNat 0) 0),(.int (.ofNat 0) 0),(.ref 145),(.bool .false),(.int (.ofNat 181) 0),(.ref 146),.none,.none,.none,.none,(.int (.ofNat 702) 0),(.int (.ofNat 13) 0),(.str s164 703)]⟩),⟨[]⟩⟩
noncomputable def o148 (p : Program) (P : Params) : Obj := ⟨(.type "frame"),.none,.plain,⟨[(.some (.ref 147)),(.some (.ref 3)),(.some (.ref 144)),.none,(.some (.str s169 234)),.none,(.some (.ref 0))]⟩⟩
noncomputable def o149 (p : Program) (P : Params) : Obj := ⟨(.type "tuple"),.none,(.seq ⟨[]⟩ 0),⟨[]⟩⟩
noncomputable def o150 (p : Program) (P : Params) : Obj := ⟨.none,.none,(.fields ⟨[]⟩),⟨[]⟩⟩
noncomputable def o151 (p : Program) (P : Params) : Obj := ⟨(.type "tuple"),.none,(.seq ⟨[(.str s178 712),(.str s317 713),(.str s318 714),(.str s319 715)]⟩ 0),⟨[]⟩⟩
noncomputable def o152 (p : Program) (P : Params) : Obj := ⟨(.type "tuple"),.none,(.seq ⟨[]⟩ 0),⟨[]⟩⟩
noncomputable def o153 (p : Program) (P : Params) : Obj := ⟨.none,.none,(.func ⟨s176,s320,(fArgs (inCls (stN p 7) 0)),(.stmts (fBody (inCls (stN p 7) 0))),(fScope (inCls (stN p 7) 0)),0,[],.none,.none,.none,.none,.none,.none,.none,0⟩),⟨[]⟩⟩
noncomputable def o154 (p : Program) (P : Params) : Obj := ⟨(.type "code"),.none,(.fields ⟨[(.str s176 709),(.str s320 710),(.str s164 711),(.int (.ofNat 15) 0),(.int (.ofNat 4) 0),(.int (.ofNat 0) 0),(.int (.ofNat 0) 0),(.int (.ofNat 3) 0),(.ref 149),(.bool .true),(.int (.ofNat 181) 0),(.ref 150),.none,(.ref 151),(.ref 152),(.ref 153),(.int (.ofNat 716) 0),(.int (.ofNat 15) 0),(.str s164 717)]⟩),⟨[]⟩⟩
noncomputable def o155 (p : Program) (P : Params) : Obj := ⟨(.type "function"),.none,(.func ⟨s176,s320,(fArgs (inCls (stN p 7) 0)),(.stmts (fBody (inCls (stN p 7) 0))),(fScope (inCls (stN p 7) 0)),3,[],.none,.none,.none,(.str s169 234),.none,(.ref 154),.none,0⟩),⟨[]⟩⟩
noncomputable def o156 (p : Program) (P : Params) : Obj := ⟨(.type "tuple"),.none,(.seq ⟨[(.str s321 719),(.str s319 720),(.str s322 721),(.str s317 722),(.str s318 723)]⟩ 0),⟨[]⟩⟩
noncomputable def o157 (p : Program) (P : Params) : Obj := ⟨(.type "dict"),.none,(.dict ⟨[⟨(PyData.keyHash P s172),(.str s172 704),(.str s169 234)⟩,⟨(PyData.keyHash P s175),(.str s175 708),(.int (.ofNat 13) 707)⟩,⟨(PyData.keyHash P s176),(.str s176 718),(.ref 155)⟩,⟨(PyData.keyHash P s177),(.str s177 724),(.ref 156)⟩,⟨(PyData.keyHash P s323),(.str s323 726),(.ref 159)⟩,⟨(PyData.keyHash P s181),(.str s181 728),(.ref 160)⟩,⟨(PyData.keyHash P s2),(.str s2 729),.none⟩]⟩ 4),⟨[]⟩⟩
noncomputable def o158 (p : Program) (P : Params) : Obj := ⟨(.type "type"),.none,(.cls ⟨s286,[(.type "object")],[(.ref 158),(.type "object")],157,s286,.true,[],[],.false,.none,.false⟩),⟨[.none,.none,(.some (.str s286 697)),(.some (.str s286 705)),(.some (.builtin "object.__new__")),(.some (.bool .true))]⟩⟩
noncomputable def o159 (p : Program) (P : Params) : Obj := ⟨(.type "getset_descriptor"),.none,(.fields ⟨[(.str s323 725),(.ref 158),(.builtin "function.__dict__"),(.builtin "function.__dict__#set")]⟩),⟨[]⟩⟩
noncomputable def o160 (p : Program) (P : Params) : Obj := ⟨(.type "getset_descriptor"),.none,(.fields ⟨[(.str s181 727),(.ref 158),(.builtin "ExceptionGroup.__weakref__"),.none]⟩),⟨[]⟩⟩
noncomputable def o161 (p : Program) (P : Params) : Obj := ⟨(.type "super"),.none,(.fields ⟨[(.ref 158),(.ref 158),(.ref 158)]⟩),⟨[]⟩⟩
noncomputable def o162 (p : Program) (P : Params) : Obj := ⟨(.type "builtin_function_or_method"),.none,(.fields ⟨[(.builtin "object.__init_subclass__"),(.ref 158)]⟩),⟨[]⟩⟩
noncomputable def o163 (p : Program) (P : Params) : Obj := ⟨(.type "tuple"),.none,(.seq ⟨[]⟩ 0),⟨[]⟩⟩
noncomputable def o164 (p : Program) (P : Params) : Obj := ⟨.none,.none,(.fields ⟨[]⟩),⟨[]⟩⟩
noncomputable def o165 (p : Program) (P : Params) : Obj := ⟨(.type "tuple"),.none,(.seq ⟨[(.str s324 735),(.str s325 736)]⟩ 0),⟨[]⟩⟩
noncomputable def o166 (p : Program) (P : Params) : Obj := ⟨(.type "tuple"),.none,(.seq ⟨[]⟩ 0),⟨[]⟩⟩
noncomputable def o167 (p : Program) (P : Params) : Obj := ⟨.none,.none,(.func ⟨s287,s287,(fArgs (stN p 8)),(.stmts (fBody (stN p 8))),(fScope (stN p 8)),0,[],.none,.none,.none,.none,.none,.none,.none,0⟩),⟨[]⟩⟩
noncomputable def o168 (p : Program) (P : Params) : Obj := ⟨(.type "code"),.none,(.fields ⟨[(.str s287 732),(.str s287 733),(.str s164 734),(.int (.ofNat 21) 0),(.int (.ofNat 1) 0),(.int (.ofNat 0) 0),(.int (.ofNat 0) 0),(.int (.ofNat 3) 0),(.ref 163),(.bool .true),(.int (.ofNat 181) 0),(.ref 164),.none,(.ref 165),(.ref 166),(.ref 167),(.int (.ofNat 737) 0),(.int (.ofNat 21) 0),(.str s164 738)]⟩),⟨[]⟩⟩
noncomputable def o169 (p : Program) (P : Params) : Obj := ⟨(.type "function"),.none,(.func ⟨s287,s287,(fArgs (stN p 8)),(.stmts (fBody (stN p 8))),(fScope (stN p 8)),3,[],.none,.none,.none,(.str s169 234),.none,(.ref 168),.none,0⟩),⟨[]⟩⟩
noncomputable def o170 (p : Program) (P : Params) : Obj := ⟨(.type "tuple"),.none,(.seq ⟨[]⟩ 0),⟨[]⟩⟩
noncomputable def o171 (p : Program) (P : Params) : Obj := ⟨.none,.none,(.fields ⟨[]⟩),⟨[]⟩⟩
noncomputable def o172 (p : Program) (P : Params) : Obj := ⟨(.type "tuple"),.none,(.seq ⟨[(.str s324 743),(.str s326 744),(.str s327 745),(.str s328 746),(.str s329 747)]⟩ 0),⟨[]⟩⟩
noncomputable def o173 (p : Program) (P : Params) : Obj := ⟨(.type "tuple"),.none,(.seq ⟨[]⟩ 0),⟨[]⟩⟩
noncomputable def o174 (p : Program) (P : Params) : Obj := ⟨.none,.none,(.func ⟨s288,s288,(fArgs (stN p 9)),(.stmts (fBody (stN p 9))),(fScope (stN p 9)),0,[],.none,.none,.none,.none,.none,.none,.none,0⟩),⟨[]⟩⟩
noncomputable def o175 (p : Program) (P : Params) : Obj := ⟨(.type "code"),.none,(.fields ⟨[(.str s288 740),(.str s288 741),(.str s164 742),(.int (.ofNat 28) 0),(.int (.ofNat 1) 0),(.int (.ofNat 0) 0),(.int (.ofNat 0) 0),(.int (.ofNat 3) 0),(.ref 170),(.bool .true),(.int (.ofNat 181) 0),(.ref 171),.none,(.ref 172),(.ref 173),(.ref 174),(.int (.ofNat 748) 0),(.int (.ofNat 28) 0),(.str s164 749)]⟩),⟨[]⟩⟩
noncomputable def o176 (p : Program) (P : Params) : Obj := ⟨(.type "function"),.none,(.func ⟨s288,s288,(fArgs (stN p 9)),(.stmts (fBody (stN p 9))),(fScope (stN p 9)),3,[],.none,.none,.none,(.str s169 234),.none,(.ref 175),.none,0⟩),⟨[]⟩⟩
noncomputable def o177 (p : Program) (P : Params) : Obj := ⟨(.type "tuple"),.none,(.seq ⟨[]⟩ 0),⟨[]⟩⟩
noncomputable def o178 (p : Program) (P : Params) : Obj := ⟨.none,.none,(.fields ⟨[]⟩),⟨[]⟩⟩
noncomputable def o179 (p : Program) (P : Params) : Obj := ⟨(.type "tuple"),.none,(.seq ⟨[(.str s324 754),(.str s328 755),(.str s330 756),(.str s329 757)]⟩ 0),⟨[]⟩⟩
noncomputable def o180 (p : Program) (P : Params) : Obj := ⟨(.type "tuple"),.none,(.seq ⟨[]⟩ 0),⟨[]⟩⟩
noncomputable def o181 (p : Program) (P : Params) : Obj := ⟨.none,.none,(.func ⟨s289,s289,(fArgs (stN p 10)),(.stmts (fBody (stN p 10))),(fScope (stN p 10)),0,[],.none,.none,.none,.none,.none,.none,.none,0⟩),⟨[]⟩⟩
noncomputable def o182 (p : Program) (P : Params) : Obj := ⟨(.type "code"),.none,(.fields ⟨[(.str s289 751),(.str s289 752),(.str s164 753),(.int (.ofNat 36) 0),(.int (.ofNat 1) 0),(.int (.ofNat 0) 0),(.int (.ofNat 0) 0),(.int (.ofNat 3) 0),(.ref 177),(.bool .true),(.int (.ofNat 181) 0),(.ref 178),.none,(.ref 179),(.ref 180),(.ref 181),(.int (.ofNat 758) 0),(.int (.ofNat 36) 0),(.str s164 759)]⟩),⟨[]⟩⟩
noncomputable def o183 (p : Program) (P : Params) : Obj := ⟨(.type "function"),.none,(.func ⟨s289,s289,(fArgs (stN p 10)),(.stmts (fBody (stN p 10))),(fScope (stN p 10)),3,[],.none,.none,.none,(.str s169 234),.none,(.ref 182),.none,0⟩),⟨[]⟩⟩
noncomputable def o184 (p : Program) (P : Params) : Obj := ⟨(.type "tuple"),.none,(.seq ⟨[]⟩ 0),⟨[]⟩⟩
noncomputable def o185 (p : Program) (P : Params) : Obj := ⟨.none,.none,(.fields ⟨[]⟩),⟨[]⟩⟩
noncomputable def o186 (p : Program) (P : Params) : Obj := ⟨(.type "tuple"),.none,(.seq ⟨[(.str s324 764)]⟩ 0),⟨[]⟩⟩
noncomputable def o187 (p : Program) (P : Params) : Obj := ⟨(.type "tuple"),.none,(.seq ⟨[]⟩ 0),⟨[]⟩⟩
noncomputable def o188 (p : Program) (P : Params) : Obj := ⟨.none,.none,(.func ⟨s290,s290,(fArgs (stN p 11)),(.stmts (fBody (stN p 11))),(fScope (stN p 11)),0,[],.none,.none,.none,.none,.none,.none,.none,0⟩),⟨[]⟩⟩
noncomputable def o189 (p : Program) (P : Params) : Obj := ⟨(.type "code"),.none,(.fields ⟨[(.str s290 761),(.str s290 762),(.str s164 763),(.int (.ofNat 45) 0),(.int (.ofNat 1) 0),(.int (.ofNat 0) 0),(.int (.ofNat 0) 0),(.int (.ofNat 3) 0),(.ref 184),(.bool .true),(.int (.ofNat 181) 0),(.ref 185),.none,(.ref 186),(.ref 187),(.ref 188),(.int (.ofNat 765) 0),(.int (.ofNat 45) 0),(.str s164 766)]⟩),⟨[]⟩⟩
noncomputable def o190 (p : Program) (P : Params) : Obj := ⟨(.type "function"),.none,(.func ⟨s290,s290,(fArgs (stN p 11)),(.stmts (fBody (stN p 11))),(fScope (stN p 11)),3,[],.none,.none,.none,(.str s169 234),.none,(.ref 189),.none,0⟩),⟨[]⟩⟩
noncomputable def o191 (p : Program) (P : Params) : Obj := ⟨(.type "tuple"),.none,(.seq ⟨[]⟩ 0),⟨[]⟩⟩
noncomputable def o192 (p : Program) (P : Params) : Obj := ⟨.none,.none,(.fields ⟨[]⟩),⟨[]⟩⟩
noncomputable def o193 (p : Program) (P : Params) : Obj := ⟨(.type "tuple"),.none,(.seq ⟨[(.str s324 771),(.str s326 772),(.str s327 773),(.str s330 774),(.str s207 775)]⟩ 0),⟨[]⟩⟩
noncomputable def o194 (p : Program) (P : Params) : Obj := ⟨(.type "tuple"),.none,(.seq ⟨[]⟩ 0),⟨[]⟩⟩
noncomputable def o195 (p : Program) (P : Params) : Obj := ⟨.none,.none,(.func ⟨s291,s291,(fArgs (stN p 12)),(.stmts (fBody (stN p 12))),(fScope (stN p 12)),0,[],.none,.none,.none,.none,.none,.none,.none,0⟩),⟨[]⟩⟩
noncomputable def o196 (p : Program) (P : Params) : Obj := ⟨(.type "code"),.none,(.fields ⟨[(.str s291 768),(.str s291 769),(.str s164 770),(.int (.ofNat 47) 0),(.int (.ofNat 1) 0),(.int (.ofNat 0) 0),(.int (.ofNat 0) 0),(.int (.ofNat 3) 0),(.ref 191),(.bool .true),(.int (.ofNat 181) 0),(.ref 192),.none,(.ref 193),(.ref 194),(.ref 195),(.int (.ofNat 776) 0),(.int (.ofNat 47) 0),(.str s164 777)]⟩),⟨[]⟩⟩
noncomputable def o197 (p : Program) (P : Params) : Obj := ⟨(.type "function"),.none,(.func ⟨s291,s291,(fArgs (stN p 12)),(.stmts (fBody (stN p 12))),(fScope (stN p 12)),3,[],.none,.none,.none,(.str s169 234),.none,(.ref 196),.none,0⟩),⟨[]⟩⟩
noncomputable def o198 (p : Program) (P : Params) : Obj := ⟨(.type "tuple"),.none,(.seq ⟨[]⟩ 0),⟨[]⟩⟩
noncomputable def o199 (p : Program) (P : Params) : Obj := ⟨.none,.none,(.fields ⟨[]⟩),⟨[]⟩⟩
noncomputable def o200 (p : Program) (P : Params) : Obj := ⟨(.type "tuple"),.none,(.seq ⟨[(.str s324 782)]⟩ 0),⟨[]⟩⟩
noncomputable def o201 (p : Program) (P : Params) : Obj := ⟨(.type "tuple"),.none,(.seq ⟨[]⟩ 0),⟨[]⟩⟩
noncomputable def o202 (p : Program) (P : Params) : Obj := ⟨.none,.none,(.func ⟨s292,s292,(fArgs (stN p 13)),(.stmts (fBody (stN p 13))),(fScope (stN p 13)),0,[],.none,.none,.none,.none,.none,.none,.none,0⟩),⟨[]⟩⟩
noncomputable def o203 (p : Program) (P : Params) : Obj := ⟨(.type "code"),.none,(.fields ⟨[(.str s292 779),(.str s292 780),(.str s164 781),(.int (.ofNat 55) 0),(.int (.ofNat 1) 0),(.int (.ofNat 0) 0),(.int (.ofNat 0) 0),(.int (.ofNat 3) 0),(.ref 198),(.bool .true),(.int (.ofNat 181) 0),(.ref 199),.none,(.ref 200),(.ref 201),(.ref 202),(.int (.ofNat 783) 0),(.int (.ofNat 55) 0),(.str s164 784)]⟩),⟨[]⟩⟩
noncomputable def o204 (p : Program) (P : Params) : Obj := ⟨(.type "function"),.none,(.func ⟨s292,s292,(fArgs (stN p 13)),(.stmts (fBody (stN p 13))),(fScope (stN p 13)),3,[],.none,.none,.none,(.str s169 234),.none,(.ref 203),.none,0⟩),⟨[]⟩⟩
noncomputable def o205 (p : Program) (P : Params) : Obj := ⟨(.type "tuple"),.none,(.seq ⟨[]⟩ 0),⟨[]⟩⟩
noncomputable def o206 (p : Program) (P : Params) : Obj := ⟨.none,.none,(.fields ⟨[]⟩),⟨[]⟩⟩
noncomputable def o207 (p : Program) (P : Params) : Obj := ⟨(.type "tuple"),.none,(.seq ⟨[(.str s328 789),(.str s330 790),(.str s331 791),(.str s332 792)]⟩ 0),⟨[]⟩⟩
noncomputable def o208 (p : Program) (P : Params) : Obj := ⟨(.type "tuple"),.none,(.seq ⟨[]⟩ 0),⟨[]⟩⟩
noncomputable def o209 (p : Program) (P : Params) : Obj := ⟨.none,.none,(.func ⟨s293,s293,(fArgs (stN p 14)),(.stmts (fBody (stN p 14))),(fScope (stN p 14)),0,[],.none,.none,.none,.none,.none,.none,.none,0⟩),⟨[]⟩⟩
noncomputable def o210 (p : Program) (P : Params) : Obj := ⟨(.type "code"),.none,(.fields ⟨[(.str s293 786),(.str s293 787),(.str s164 788),(.int (.ofNat 63) 0),(.int (.ofNat 1) 0),(.int (.ofNat 0) 0),(.int (.ofNat 0) 0),(.int (.ofNat 3) 0),(.ref 205),(.bool .true),(.int (.ofNat 181) 0),(.ref 206),.none,(.ref 207),(.ref 208),(.ref 209),(.int (.ofNat 793) 0),(.int (.ofNat 63) 0),(.str s164 794)]⟩),⟨[]⟩⟩
noncomputable def o211 (p : Program) (P : Params) : Obj := ⟨(.type "function"),.none,(.func ⟨s293,s293,(fArgs (stN p 14)),(.stmts (fBody (stN p 14))),(fScope (stN p 14)),3,[],.none,.none,.none,(.str s169 234),.none,(.ref 210),.none,0⟩),⟨[]⟩⟩
noncomputable def o212 (p : Program) (P : Params) : Obj := ⟨(.type "dict"),.none,(.dict ⟨[⟨(PyData.keyHash P s189),(.str s189 798),(.int (.ofNat 3) 799)⟩,⟨(PyData.keyHash P s202),(.str s202 800),(.int (.ofNat 2) 801)⟩,⟨(PyData.keyHash P s203),(.str s203 802),(.int (.ofNat 2) 803)⟩]⟩ 3),⟨[]⟩⟩
noncomputable def o213 (p : Program) (P : Params) : Obj := ⟨(.type "dict"),.none,(.dict ⟨[⟨(PyData.keyHash P s256),(.str s256 808),(.ref 214)⟩,⟨(PyData.keyHash P s257),(.str s257 810),(.ref 215)⟩,⟨(PyData.keyHash P s258),(.str s258 812),(.ref 216)⟩,⟨(PyData.keyHash P s260),(.str s260 814),(.ref 217)⟩,⟨(PyData.keyHash P s266),(.str s266 816),(.ref 218)⟩]⟩ 5),⟨[]⟩⟩
noncomputable def o214 (p : Program) (P : Params) : Obj := ⟨(.type "tuple"),.none,(.seq ⟨[(.int (.ofNat 2) 809)]⟩ 0),⟨[]⟩⟩
noncomputable def o215 (p : Program) (P : Params) : Obj := ⟨(.type "tuple"),.none,(.seq ⟨[(.int (.ofNat 2) 811)]⟩ 0),⟨[]⟩⟩
noncomputable def o216 (p : Program) (P : Params) : Obj := ⟨(.type "tuple"),.none,(.seq ⟨[(.int (.ofNat 2) 813)]⟩ 0),⟨[]⟩⟩
noncomputable def o217 (p : Program) (P : Params) : Obj := ⟨(.type "tuple"),.none,(.seq ⟨[(.int (.ofNat 3) 815)]⟩ 0),⟨[]⟩⟩
noncomputable def o218 (p : Program) (P : Params) : Obj := ⟨(.type "tuple"),.none,(.seq ⟨[(.int (.ofNat 2) 817),(.int (.ofNat 3) 818)]⟩ 0),⟨[]⟩⟩
noncomputable def o219 (p : Program) (P : Params) : Obj := ⟨(.type "dict"),.none,(.dict ⟨[⟨(PyData.keyHash P s231),(.str s231 825),(.str s231 826)⟩,⟨(PyData.keyHash P s234),(.str s234 827),(.str s234 828)⟩,⟨(PyData.keyHash P s258),(.str s258 829),(.str s258 830)⟩,⟨(PyData.keyHash P s259),(.str s259 831),(.str s258 832)⟩]⟩ 4),⟨[]⟩⟩
noncomputable def o220 (p : Program) (P : Params) : Obj := ⟨(.type "dict"),.none,(.dict ⟨[⟨(PyData.keyHash P s233),(.str s233 838),(.str s231 839)⟩,⟨(PyData.keyHash P s235),(.str s235 840),(.str s234 841)⟩,⟨(PyData.keyHash P s238),(.str s238 842),(.str s258 843)⟩]⟩ 3),⟨[]⟩⟩
noncomputable def o221 (p : Program) (P : Params) : Obj := ⟨(.type "tuple"),.none,(.seq ⟨[(.str s236 848),(.str s237 849),(.str s239 850),(.str s240 851),(.str s241 852)]⟩ 0),⟨[]⟩⟩
noncomputable def o222 (p : Program) (P : Params) : Obj := ⟨(.type "tuple"),.none,(.seq ⟨[]⟩ 0),⟨[]⟩⟩
noncomputable def o223 (p : Program) (P : Params) : Obj := ⟨.none,.none,(.fields ⟨[]⟩),⟨[]⟩⟩
noncomputable def o224 (p : Program) (P : Params) : Obj := ⟨.none,.none,(.func ⟨s299,s299,(fArgs (stN p 21)),(.stmts (fBody (stN p 21))),(fScope (stN p 21)),0,[],.none,.none,.none,.none,.none,.none,.none,0⟩),⟨[]⟩⟩
noncomputable def o225 (p : Program) (P : Params) : Obj := ⟨(.type "code"),.none,(.fields ⟨[(.str s299 854),(.str s299 855),(.str s164 856),(.int (.ofNat 77) 0),(.int (.ofNat 1) 0),(.int (.ofNat 0) 0),(.int (.ofNat 0) 0),(.int (.ofNat 3) 0),(.ref 222),(.bool .true),(.int (.ofNat 181) 0),(.ref 223),.none,.none,.none,(.ref 224),(.int (.ofNat 857) 0),(.int (.ofNat 77) 0),(.str s164 858)]⟩),⟨[]⟩⟩
noncomputable def o226 (p : Program) (P : Params) : Obj := ⟨(.type "function"),.none,(.func ⟨s299,s299,(fArgs (stN p 21)),(.stmts (fBody (stN p 21))),(fScope (stN p 21)),3,[],.none,.none,.none,(.str s333 796),.none,(.ref 225),.none,0⟩),⟨[]⟩⟩
noncomputable def o227 (p : Program) (P : Params) : Obj := ⟨(.type "tuple"),.none,(.seq ⟨[]⟩ 0),⟨[]⟩⟩
noncomputable def o228 (p : Program) (P : Params) : Obj := ⟨.none,.none,(.fields ⟨[]⟩),⟨[]⟩⟩
noncomputable def o229 (p : Program) (P : Params) : Obj := ⟨.none,.none,(.func ⟨s300,s300,(fArgs (stN p 22)),(.stmts (fBody (stN p 22))),(fScope (stN p 22)),0,[],.none,.none,.none,.none,.none,.none,.none,0⟩),⟨[]⟩⟩
noncomputable def o230 (p : Program) (P : Params) : Obj := ⟨(.type "code"),.none,(.fields ⟨[(.str s300 860),(.str s300 861),(.str s164 862),(.int (.ofNat 80) 0),(.int (.ofNat 1) 0),(.int (.ofNat 0) 0),(.int (.ofNat 0) 0),(.int (.ofNat 3) 0),(.ref 227),(.bool .true),(.int (.ofNat 181) 0),(.ref 228),.none,.none,.none,(.ref 229),(.int (.ofNat 863) 0),(.int (.ofNat 80) 0),(.str s164 864)]⟩),⟨[]⟩⟩
noncomputable def o231 (p : Program) (P : Params) : Obj := ⟨(.type "function"),.none,(.func ⟨s300,s300,(fArgs (stN p 22)),(.stmts (fBody (stN p 22))),(fScope (stN p 22)),3,[],.none,.none,.none,(.str s333 796),.none,(.ref 230),.none,0⟩),⟨[]⟩⟩
noncomputable def o232 (p : Program) (P : Params) : Obj := ⟨(.type "tuple"),.none,(.seq ⟨[]⟩ 0),⟨[]⟩⟩
noncomputable def o233 (p : Program) (P : Params) : Obj := ⟨.none,.none,(.fields ⟨[]⟩),⟨[]⟩⟩
noncomputable def o234 (p : Program) (P : Params) : Obj := ⟨(.type "tuple"),.none,(.seq ⟨[(.str s324 869),(.str s334 870),(.str s335 871),(.str s207 872),(.str s336 873)]⟩ 0),⟨[]⟩⟩
noncomputable def o235 (p : Program) (P : Params) : Obj := ⟨(.type "tuple"),.none,(.seq ⟨[]⟩ 0),⟨[]⟩⟩
noncomputable def o236 (p : Program) (P : Params) : Obj := ⟨.none,.none,(.func ⟨s301,s301,(fArgs (stN p 23)),(.stmts (fBody (stN p 23))),(fScope (stN p 23)),0,[],.none,.none,.none,.none,.none,.none,.none,0⟩),⟨[]⟩⟩
noncomputable def o237 (p : Program) (P : Params) : Obj := ⟨(.type "code"),.none,(.fields ⟨[(.str s301 866),(.str s301 867),(.str s164 868),(.int (.ofNat 92) 0),(.int (.ofNat 3) 0),(.int (.ofNat 0) 0),(.int (.ofNat 0) 0),(.int (.ofNat 3) 0),(.ref 232),(.bool .true),(.int (.ofNat 181) 0),(.ref 233),.none,(.ref 234),(.ref 235),(.ref 236),(.int (.ofNat 874) 0),(.int (.ofNat 92) 0),(.str s164 875)]⟩),⟨[]⟩⟩
noncomputable def o238 (p : Program) (P : Params) : Obj := ⟨(.type "function"),.none,(.func ⟨s301,s301,(fArgs (stN p 23)),(.stmts (fBody (stN p 23))),(fScope (stN p 23)),3,[],.none,.none,.none,(.str s333 796),.none,(.ref 237),.none,0⟩),⟨[]⟩⟩
noncomputable def o239 (p : Program) (P : Params) : Obj := ⟨(.type "tuple"),.none,(.seq ⟨[]⟩ 0),⟨[]⟩⟩
noncomputable def o240 (p : Program) (P : Params) : Obj := ⟨.none,.none,(.fields ⟨[]⟩),⟨[]⟩⟩
noncomputable def o241 (p : Program) (P : Params) : Obj := ⟨(.type "tuple"),.none,(.seq ⟨[(.str s324 880),(.str s337 881)]⟩ 0),⟨[]⟩⟩
noncomputable def o242 (p : Program) (P : Params) : Obj := ⟨(.type "tuple"),.none,(.seq ⟨[]⟩ 0),⟨[]⟩⟩
noncomputable def o243 (p : Program) (P : Params) : Obj := ⟨.none,.none,(.func ⟨s302,s302,(fArgs (stN p 24)),(.stmts (fBody (stN p 24))),(fScope (stN p 24)),0,[],.none,.none,.none,.none,.none,.none,.none,0⟩),⟨[]⟩⟩
noncomputable def o244 (p : Program) (P : Params) : Obj := ⟨(.type "code"),.none,(.fields ⟨[(.str s302 877),(.str s302 878),(.str s164 879),(.int (.ofNat 102) 0),(.int (.ofNat 2) 0),(.int (.ofNat 0) 0),(.int (.ofNat 0) 0),(.int (.ofNat 3) 0),(.ref 239),(.bool .true),(.int (.ofNat 181) 0),(.ref 240),.none,(.ref 241),(.ref 242),(.ref 243),(.int (.ofNat 882) 0),(.int (.ofNat 102) 0),(.str s164 883)]⟩),⟨[]⟩⟩
noncomputable def o245 (p : Program) (P : Params) : Obj := ⟨(.type "function"),.none,(.func ⟨s302,s302,(fArgs (stN p 24)),(.stmts (fBody (stN p 24))),(fScope (stN p 24)),3,[],.none,.none,.none,(.str s333 796),.none,(.ref 244),.none,0⟩),⟨[]⟩⟩
noncomputable def o246 (p : Program) (P : Params) : Obj := ⟨(.type "tuple"),.none,(.seq ⟨[]⟩ 0),⟨[]⟩⟩
noncomputable def o247 (p : Program) (P : Params) : Obj := ⟨.none,.none,(.fields ⟨[]⟩),⟨[]⟩⟩
noncomputable def o248 (p : Program) (P : Params) : Obj := ⟨(.type "tuple"),.none,(.seq ⟨[(.str s317 888),(.str s330 889),(.str s338 890),(.str s329 891),(.str s339 892),(.str s337 893),(.str s340 894),(.str s207 895),(.str s341 896)]⟩ 0),⟨[]⟩⟩
noncomputable def o249 (p : Program) (P : Params) : Obj := ⟨(.type "tuple"),.none,(.seq ⟨[]⟩ 0),⟨[]⟩⟩
noncomputable def o250 (p : Program) (P : Params) : Obj := ⟨.none,.none,(.func ⟨s303,s303,(fArgs (stN p 25)),(.stmts (fBody (stN p 25))),(fScope (stN p 25)),0,[],.none,.none,.none,.none,.none,.none,.none,0⟩),⟨[]⟩⟩
noncomputable def o251 (p : Program) (P : Params) : Obj := ⟨(.type "code"),.none,(.fields ⟨[(.str s303 885),(.str s303 886),(.str s164 887),(.int (.ofNat 112) 0),(.int (.ofNat 1) 0),(.int (.ofNat 0) 0),(.int (.ofNat 0) 0),(.int (.ofNat 3) 0),(.ref 246),(.bool .true),(.int (.ofNat 181) 0),(.ref 247),.none,(.ref 248),(.ref 249),(.ref 250),(.int (.ofNat 897) 0),(.int (.ofNat 112) 0),(.str s164 898)]⟩),⟨[]⟩⟩
noncomputable def o252 (p : Program) (P : Params) : Obj := ⟨(.type "function"),.none,(.func ⟨s303,s303,(fArgs (stN p 25)),(.stmts (fBody (stN p 25))),(fScope (stN p 25)),3,[],.none,.none,.none,(.str s333 796),.none,(.ref 251),.none,0⟩),⟨[]⟩⟩
noncomputable def o253 (p : Program) (P : Params) : Obj := ⟨(.type "tuple"),.none,(.seq ⟨[]⟩ 0),⟨[]⟩⟩
noncomputable def o254 (p : Program) (P : Params) : Obj := ⟨.none,.none,(.fields ⟨[]⟩),⟨[]⟩⟩
noncomputable def o255 (p : Program) (P : Params) : Obj := ⟨(.type "tuple"),.none,(.seq ⟨[(.str s342 903),(.str s324 904),(.str s343 905)]⟩ 0),⟨[]⟩⟩
noncomputable def o256 (p : Program) (P : Params) : Obj := ⟨(.type "tuple"),.none,(.seq ⟨[]⟩ 0),⟨[]⟩⟩
noncomputable def o257 (p : Program) (P : Params) : Obj := ⟨.none,.none,(.func ⟨s304,s304,(fArgs (stN p 26)),(.stmts (fBody (stN p 26))),(fScope (stN p 26)),0,[],.none,.none,.none,.none,.none,.none,.none,0⟩),⟨[]⟩⟩
noncomputable def o258 (p : Program) (P : Params) : Obj := ⟨(.type "code"),.none,(.fields ⟨[(.str s304 900),(.str s304 901),(.str s164 902),(.int (.ofNat 128) 0),(.int (.ofNat 1) 0),(.int (.ofNat 0) 0),(.int (.ofNat 0) 0),(.int (.ofNat 3) 0),(.ref 253),(.bool .true),(.int (.ofNat 181) 0),(.ref 254),.none,(.ref 255),(.ref 256),(.ref 257),(.int (.ofNat 906) 0),(.int (.ofNat 128) 0),(.str s164 907)]⟩),⟨[]⟩⟩
noncomputable def o259 (p : Program) (P : Params) : Obj := ⟨(.type "function"),.none,(.func ⟨s304,s304,(fArgs (stN p 26)),(.stmts (fBody (stN p 26))),(fScope (stN p 26)),3,[],.none,.none,.none,(.str s333 796),.none,(.ref 258),.none,0⟩),⟨[]⟩⟩
noncomputable def o260 (p : Program) (P : Params) : Obj := ⟨(.type "tuple"),.none,(.seq ⟨[]⟩ 0),⟨[]⟩⟩
noncomputable def o261 (p : Program) (P : Params) : Obj := ⟨.none,.none,(.fields ⟨[]⟩),⟨[]⟩⟩
noncomputable def o262 (p : Program) (P : Params) : Obj := ⟨(.type "tuple"),.none,(.seq ⟨[(.str s342 912),(.str s344 913),(.str s345 914)]⟩ 0),⟨[]⟩⟩
noncomputable def o263 (p : Program) (P : Params) : Obj := ⟨(.type "tuple"),.none,(.seq ⟨[]⟩ 0),⟨[]⟩⟩
noncomputable def o264 (p : Program) (P : Params) : Obj := ⟨.none,.none,(.func ⟨s305,s305,(fArgs (stN p 27)),(.stmts (fBody (stN p 27))),(fScope (stN p 27)),0,[],.none,.none,.none,.none,.none,.none,.none,0⟩),⟨[]⟩⟩
noncomputable def o265 (p : Program) (P : Params) : Obj := ⟨(.type "code"),.none,(.fields ⟨[(.str s305 909),(.str s305 910),(.str s164 911),(.int (.ofNat 138) 0),(.int (.ofNat 1) 0),(.int (.ofNat 0) 0),(.int (.ofNat 0) 0),(.int (.ofNat 3) 0),(.ref 260),(.bool .true),(.int (.ofNat 181) 0),(.ref 261),.none,(.ref 262),(.ref 263),(.ref 264),(.int (.ofNat 915) 0),(.int (.ofNat 138) 0),(.str s164 916)]⟩),⟨[]⟩⟩
noncomputable def o266 (p : Program) (P : Params) : Obj := ⟨(.type "function"),.none,(.func ⟨s305,s305,(fArgs (stN p 27)),(.stmts (fBody (stN p 27))),(fScope (stN p 27)),3,[],.none,.none,.none,(.str s333 796),.none,(.ref 265),.none,0⟩),⟨[]⟩⟩
noncomputable def o267 (p : Program) (P : Params) : Obj := ⟨(.type "tuple"),.none,(.seq ⟨[(.str s231 922),(.str s234 923),(.str s258 924)]⟩ 0),⟨[]⟩⟩
noncomputable def o268 (p : Program) (P : Params) : Obj := ⟨(.type "dict"),.none,(.dict ⟨[⟨(PyData.keyHash P s231),(.str s231 926),(.ref 269)⟩,⟨(PyData.keyHash P s234),(.str s234 929),(.ref 270)⟩,⟨(PyData.keyHash P s258),(.str s258 931),(.ref 272)⟩]⟩ 3),⟨[]⟩⟩
noncomputable def o269 (p : Program) (P : Params) : Obj := ⟨(.type "tuple"),.none,(.seq ⟨[(.str s231 927),(.str s346 928)]⟩ 0),⟨[]⟩⟩
noncomputable def o270 (p : Program) (P : Params) : Obj := ⟨(.type "tuple"),.none,(.seq ⟨[(.str s234 930)]⟩ 0),⟨[]⟩⟩
noncomputable def o271 (p : Program) (P : Params) : Obj := ⟨(.type "list"),.none,(.seq ⟨[]⟩ 0),⟨[]⟩⟩
noncomputable def o272 (p : Program) (P : Params) : Obj := ⟨(.type "tuple"),.none,(.seq ⟨[(.str s258 932),(.str s347 933),(.int (.ofNat 0) 934),(.ref 271)]⟩ 0),⟨[]⟩⟩
noncomputable def o273 (p : Program) (P : Params) : Obj := ⟨(.type "tuple"),.none,(.seq ⟨[(.str s236 939),(.str s237 940),(.str s239 941),(.str s240 942),(.str s241 943)]⟩ 0),⟨[]⟩⟩
noncomputable def o274 (p : Program) (P : Params) : Obj := ⟨(.type "tuple"),.none,(.seq ⟨[]⟩ 0),⟨[]⟩⟩
noncomputable def o275 (p : Program) (P : Params) : Obj := ⟨.none,.none,(.fields ⟨[]⟩),⟨[]⟩⟩
noncomputable def o276 (p : Program) (P : Params) : Obj := ⟨(.type "tuple"),.none,(.seq ⟨[(.str s348 948),(.str s335 949)]⟩ 0),⟨[]⟩⟩
noncomputable def o277 (p : Program) (P : Params) : Obj := ⟨(.type "tuple"),.none,(.seq ⟨[]⟩ 0),⟨[]⟩⟩
noncomputable def o278 (p : Program) (P : Params) : Obj := ⟨.none,.none,(.func ⟨s311,s311,(fArgs (stN p 33)),(.stmts (fBody (stN p 33))),(fScope (stN p 33)),0,[],.none,.none,.none,.none,.none,.none,.none,0⟩),⟨[]⟩⟩
noncomputable def o279 (p : Program) (P : Params) : Obj := ⟨(.type "code"),.none,(.fields ⟨[(.str s311 945),(.str s311 946),(.str s164 947),(.int (.ofNat 149) 0),(.int (.ofNat 2) 0),(.int (.ofNat 0) 0),(.int (.ofNat 0) 0),(.int (.ofNat 3) 0),(.ref 274),(.bool .true),(.int (.ofNat 181) 0),(.ref 275),.none,(.ref 276),(.ref 277),(.ref 278),(.int (.ofNat 950) 0),(.int (.ofNat 149) 0),(.str s164 951)]⟩),⟨[]⟩⟩
noncomputable def o280 (p : Program) (P : Params) : Obj := ⟨(.type "function"),.none,(.func ⟨s311,s311,(fArgs (stN p 33)),(.stmts (fBody (stN p 33))),(fScope (stN p 33)),3,[],.none,.none,.none,(.str s283 918),.none,(.ref 279),.none,0⟩),⟨[]⟩⟩
noncomputable def o281 (p : Program) (P : Params) : Obj := ⟨(.type "tuple"),.none,(.seq ⟨[]⟩ 0),⟨[]⟩⟩
noncomputable def o282 (p : Program) (P : Params) : Obj := ⟨.none,.none,(.fields ⟨[]⟩),⟨[]⟩⟩
noncomputable def o283 (p : Program) (P : Params) : Obj := ⟨(.type "tuple"),.none,(.seq ⟨[(.str s348 956),(.str s349 957),(.str s328 958),(.str s207 959),(.str s324 960),(.str s332 961)]⟩ 0),⟨[]⟩⟩
noncomputable def o284 (p : Program) (P : Params) : Obj := ⟨(.type "tuple"),.none,(.seq ⟨[]⟩ 0),⟨[]⟩⟩
noncomputable def o285 (p : Program) (P : Params) : Obj := ⟨.none,.none,(.func ⟨s312,s312,(fArgs (stN p 34)),(.stmts (fBody (stN p 34))),(fScope (stN p 34)),0,[],.none,.none,.none,.none,.none,.none,.none,0⟩),⟨[]⟩⟩
noncomputable def o286 (p : Program) (P : Params) : Obj := ⟨(.type "code"),.none,(.fields ⟨[(.str s312 953),(.str s312 954),(.str s164 955),(.int (.ofNat 154) 0),(.int (.ofNat 4) 0),(.int (.ofNat 0) 0),(.int (.ofNat 0) 0),(.int (.ofNat 3) 0),(.ref 281),(.bool .true),(.int (.ofNat 181) 0),(.ref 282),.none,(.ref 283),(.ref 284),(.ref 285),(.int (.ofNat 962) 0),(.int (.ofNat 154) 0),(.str s164 963)]⟩),⟨[]⟩⟩
noncomputable def o287 (p : Program) (P : Params) : Obj := ⟨(.type "function"),.none,(.func ⟨s312,s312,(fArgs (stN p 34)),(.stmts (fBody (stN p 34))),(fScope (stN p 34)),3,[],.none,.none,.none,(.str s283 918),.none,(.ref 286),.none,0⟩),⟨[]⟩⟩
noncomputable def o288 (p : Program) (P : Params) : Obj := ⟨(.type "tuple"),.none,(.seq ⟨[]⟩ 0),⟨[]⟩⟩
noncomputable def o289 (p : Program) (P : Params) : Obj := ⟨.none,.none,(.fields ⟨[]⟩),⟨[]⟩⟩
noncomputable def o290 (p : Program) (P : Params) : Obj := ⟨.none,.none,(.func ⟨s313,s313,(fArgs (stN p 35)),(.stmts (fBody (stN p 35))),(fScope (stN p 35)),0,[],.none,.none,.none,.none,.none,.none,.none,0⟩),⟨[]⟩⟩
noncomputable def o291 (p : Program) (P : Params) : Obj := ⟨(.type "code"),.none,(.fields ⟨[(.str s313 965),(.str s313 966),(.str s164 967),(.int (.ofNat 172) 0),(.int (.ofNat 3) 0),(.int (.ofNat 0) 0),(.int (.ofNat 0) 0),(.int (.ofNat 3) 0),(.ref 288),(.bool .true),(.int (.ofNat 181) 0),(.ref 289),.none,.none,.none,(.ref 290),(.int (.ofNat 968) 0),(.int (.ofNat 172) 0),(.str s164 969)]⟩),⟨[]⟩⟩
noncomputable def o292 (p : Program) (P : Params) : Obj := ⟨(.type "function"),.none,(.func ⟨s313,s313,(fArgs (stN p 35)),(.stmts (fBody (stN p 35))),(fScope (stN p 35)),3,[],.none,.none,.none,(.str s283 918),.none,(.ref 291),.none,0⟩),⟨[]⟩⟩
noncomputable def o293 (p : Program) (P : Params) : Obj := ⟨(.type "tuple"),.none,(.seq ⟨[]⟩ 0),⟨[]⟩⟩
noncomputable def o294 (p : Program) (P : Params) : Obj := ⟨.none,.none,(.fields ⟨[]⟩),⟨[]⟩⟩
noncomputable def o295 (p : Program) (P : Params) : Obj := ⟨(.type "tuple"),.none,(.seq ⟨[(.str s348 974),(.str s350 975),(.str s351 976),(.str s352 977),(.str s353 978)]⟩ 0),⟨[]⟩⟩
noncomputable def o296 (p : Program) (P : Params) : Obj := ⟨(.type "tuple"),.none,(.seq ⟨[]⟩ 0),⟨[]⟩⟩
noncomputable def o297 (p : Program) (P : Params) : Obj := ⟨.none,.none,(.func ⟨s314,s314,(fArgs (stN p 36)),(.stmts (fBody (stN p 36))),(fScope (stN p 36)),0,[],.none,.none,.none,.none,.none,.none,.none,0⟩),⟨[]⟩⟩
noncomputable def o298 (p : Program) (P : Params) : Obj := ⟨(.type "code"),.none,(.fields ⟨[(.str s314 971),(.str s314 972),(.str s164 973),(.int (.ofNat 183) 0),(.int (.ofNat 1) 0),(.int (.ofNat 0) 0),(.int (.ofNat 0) 0),(.int (.ofNat 3) 0),(.ref 293),(.bool .true),(.int (.ofNat 181) 0),(.ref 294),.none,(.ref 295),(.ref 296),(.ref 297),(.int (.ofNat 979) 0),(.int (.ofNat 183) 0),(.str s164 980)]⟩),⟨[]⟩⟩
noncomputable def o299 (p : Program) (P : Params) : Obj := ⟨(.type "function"),.none,(.func ⟨s314,s314,(fArgs (stN p 36)),(.stmts (fBody (stN p 36))),(fScope (stN p 36)),3,[],.none,.none,.none,(.str s283 918),.none,(.ref 298),.none,0⟩),⟨[]⟩⟩
noncomputable def o300 (p : Program) (P : Params) : Obj := ⟨(.type "tuple"),.none,(.seq ⟨[]⟩ 0),⟨[]⟩⟩
noncomputable def o301 (p : Program) (P : Params) : Obj := ⟨.none,.none,(.fields ⟨[]⟩),⟨[]⟩⟩
noncomputable def o302 (p : Program) (P : Params) : Obj := ⟨.none,.none,(.func ⟨s315,s315,(fArgs (stN p 37)),(.stmts (fBody (stN p 37))),(fScope (stN p 37)),0,[],.none,.none,.none,.none,.none,.none,.none,0⟩),⟨[]⟩⟩
noncomputable def o303 (p : Program) (P : Params) : Obj := ⟨(.type "code"),.none,(.fields ⟨[(.str s315 982),(.str s315 983),(.str s164 984),(.int (.ofNat 196) 0),(.int (.ofNat 2) 0),(.int (.ofNat 0) 0),(.int (.ofNat 0) 0),(.int (.ofNat 3) 0),(.ref 300),(.bool .true),(.int (.ofNat 181) 0),(.ref 301),.none,.none,.none,(.ref 302),(.int (.ofNat 985) 0),(.int (.ofNat 196) 0),(.str s164 986)]⟩),⟨[]⟩⟩
noncomputable def o304 (p : Program) (P : Params) : Obj := ⟨(.type "function"),.none,(.func ⟨s315,s315,(fArgs (stN p 37)),(.stmts (fBody (stN p 37))),(fScope (stN p 37)),3,[],.none,.none,.none,(.str s283 918),.none,(.ref 303),.none,0⟩),⟨[]⟩⟩
noncomputable def o305 (p : Program) (P : Params) : Obj := ⟨(.type "tuple"),.none,(.seq ⟨[]⟩ 0),⟨[]⟩⟩
noncomputable def o306 (p : Program) (P : Params) : Obj := ⟨.none,.none,(.fields ⟨[]⟩),⟨[]⟩⟩
noncomputable def o307 (p : Program) (P : Params) : Obj := ⟨.none,.none,(.func ⟨s316,s316,(fArgs (stN p 38)),(.stmts (fBody (stN p 38))),(fScope (stN p 38)),0,[],.none,.none,.none,.none,.none,.none,.none,0⟩),⟨[]⟩⟩
noncomputable def o308 (p : Program) (P : Params) : Obj := ⟨(.type "code"),.none,(.fields ⟨[(.str s316 988),(.str s316 989),(.str s164 990),(.int (.ofNat 215) 0),(.int (.ofNat 1) 0),(.int (.ofNat 0) 0),(.int (.ofNat 0) 0),(.int (.ofNat 3) 0),(.ref 305),(.bool .true),(.int (.ofNat 181) 0),(.ref 306),.none,.none,.none,(.ref 307),(.int (.ofNat 991) 0),(.int (.ofNat 215) 0),(.str s164 992)]⟩),⟨[]⟩⟩
noncomputable def o309 (p : Program) (P : Params) : Obj := ⟨(.type "function"),.none,(.func ⟨s316,s316,(fArgs (stN p 38)),(.stmts (fBody (stN p 38))),(fScope (stN p 38)),3,[],.none,.none,.none,(.str s283 918),.none,(.ref 308),.none,0⟩),⟨[]⟩⟩
noncomputable def t_a (p : Program) (P : Params) : BT := (.node (o0 p P) (.node (o1 p P) (.node (o3 p P) (.node (o7 p P) .nil .nil) (.node (o11 p P) .nil .nil)) (.node (o5 p P) (.node (o9 p P) .nil .nil) (.node (o13 p P) .nil .nil))) (.node (o2 p P) (.node (o4 p P) (.node (o8 p P) .nil .nil) (.node (o12 p P) .nil .nil)) (.node (o6 p P) (.node (o10 p P) .nil .nil) (.node (o14 p P) .nil .nil))))
noncomputable def S_a (p : Program) (w : World) (os : OsState) : SharedT := ⟨t_a p w.params, 15, {}, ⟨[]⟩, boot_drawn, 187, os⟩
noncomputable def t_3 (p : Program) (P : Params) : BT := (.node (o0 p P) (.node (o1 p P) (.node (o3_3 p P) (.node (o7 p P) (.node (o15 p P) (.node (o31 p P) .nil .nil) .nil) (.node (o23 p P) (.node (o39 p P) .nil .nil) .nil)) (.node (o11 p P) (.node (o19 p P) (.node (o35 p P) .nil .nil) .nil) (.node (o27 p P) (.node (o43 p P) .nil .nil) .nil))) (.node (o5 p P) (.node (o9 p P) (.node (o17 p P) (.node (o33 p P) .nil .nil) .nil) (.node (o25 p P) (.node (o41 p P) .nil .nil) .nil)) (.node (o13 p P) (.node (o21 p P) (.node (o37 p P) .nil .nil) .nil) (.node (o29 p P) (.node (o45 p P) .nil .nil) .nil)))) (.node (o2_3 p P) (.node (o4 p P) (.node (o8 p P) (.node (o16 p P) (.node (o32 p P) .nil .nil) .nil) (.node (o24 p P) (.node (o40 p P) .nil .nil) .nil)) (.node (o12_3 p P) (.node (o20 p P) (.node (o36 p P) .nil .nil) .nil) (.node (o28 p P) (.node (o44 p P) .nil .nil) .nil))) (.node (o6 p P) (.node (o10 p P) (.node (o18 p P) (.node (o34 p P) .nil .nil) .nil) (.node (o26 p P) (.node (o42 p P) .nil .nil) .nil)) (.node (o14 p P) (.node (o22 p P) (.node (o38 p P) .nil .nil) .nil) (.node (o30 p P) (.node (o46 p P) .nil .nil) .nil)))))
noncomputable def S_3 (p : Program) (w : World) (os : OsState) : SharedT := ⟨t_3 p w.params, 47, {}, ⟨[]⟩, boot_drawn, 236, os⟩
noncomputable def t_4 (p : Program) (P : Params) : BT := (.node (o0 p P) (.node (o1 p P) (.node (o3_4 p P) (.node (o7 p P) (.node (o15 p P) (.node (o31 p P) (.node (o63 p P) (.node (o127 p P) .nil .nil) .nil) (.node (o95 p P) .nil .nil)) (.node (o47 p P) (.node (o79 p P) .nil .nil) (.node (o111 p P) .nil .nil))) (.node (o23 p P) (.node (o39 p P) (.node (o71 p P) (.node (o135 p P) .nil .nil) .nil) (.node (o103 p P) .nil .nil)) (.node (o55 p P) (.node (o87 p P) .nil .nil) (.node (o119 p P) .nil .nil)))) (.node (o11 p P) (.node (o19 p P) (.node (o35 p P) (.node (o67 p P) (.node (o131 p P) .nil .nil) .nil) (.node (o99 p P) .nil .nil)) (.node (o51 p P) (.node (o83 p P) .nil .nil) (.node (o115 p P) .nil .nil))) (.node (o27 p P) (.node (o43 p P) (.node (o75 p P) (.node (o139 p P) .nil .nil) .nil) (.node (o107 p P) .nil .nil)) (.node (o59 p P) (.node (o91 p P) .nil .nil) (.node (o123 p P) .nil .nil))))) (.node (o5 p P) (.node (o9 p P) (.node (o17 p P) (.node (o33 p P) (.node (o65 p P) (.node (o129 p P) .nil .nil) .nil) (.node (o97 p P) .nil .nil)) (.node (o49 p P) (.node (o81 p P) .nil .nil) (.node (o113 p P) .nil .nil))) (.node (o25 p P) (.node (o41 p P) (.node (o73 p P) (.node (o137 p P) .nil .nil) .nil) (.node (o105 p P) .nil .nil)) (.node (o57 p P) (.node (o89 p P) .nil .nil) (.node (o121 p P) .nil .nil)))) (.node (o13 p P) (.node (o21 p P) (.node (o37 p P) (.node (o69 p P) (.node (o133 p P) .nil .nil) .nil) (.node (o101 p P) .nil .nil)) (.node (o53 p P) (.node (o85 p P) .nil .nil) (.node (o117 p P) .nil .nil))) (.node (o29 p P) (.node (o45 p P) (.node (o77 p P) .nil .nil) (.node (o109 p P) .nil .nil)) (.node (o61 p P) (.node (o93 p P) .nil .nil) (.node (o125 p P) .nil .nil)))))) (.node (o2_3 p P) (.node (o4 p P) (.node (o8 p P) (.node (o16 p P) (.node (o32 p P) (.node (o64 p P) (.node (o128 p P) .nil .nil) .nil) (.node (o96 p P) .nil .nil)) (.node (o48 p P) (.node (o80 p P) .nil .nil) (.node (o112 p P) .nil .nil))) (.node (o24 p P) (.node (o40 p P) (.node (o72 p P) (.node (o136 p P) .nil .nil) .nil) (.node (o104 p P) .nil .nil)) (.node (o56 p P) (.node (o88 p P) .nil .nil) (.node (o120 p P) .nil .nil)))) (.node (o12_3 p P) (.node (o20 p P) (.node (o36 p P) (.node (o68 p P) (.node (o132 p P) .nil .nil) .nil) (.node (o100 p P) .nil .nil)) (.node (o52 p P) (.node (o84 p P) .nil .nil) (.node (o116 p P) .nil .nil))) (.node (o28 p P) (.node (o44 p P) (.node (o76 p P) .nil .nil) (.node (o108 p P) .nil .nil)) (.node (o60 p P) (.node (o92 p P) .nil .nil) (.node (o124 p P) .nil .nil))))) (.node (o6 p P) (.node (o10 p P) (.node (o18 p P) (.node (o34 p P) (.node (o66 p P) (.node (o130 p P) .nil .nil) .nil) (.node (o98 p P) .nil .nil)) (.node (o50 p P) (.node (o82 p P) .nil .nil) (.node (o114 p P) .nil .nil))) (.node (o26 p P) (.node (o42 p P) (.node (o74 p P) (.node (o138 p P) .nil .nil) .nil) (.node (o106 p P) .nil .nil)) (.node (o58 p P) (.node (o90 p P) .nil .nil) (.node (o122 p P) .nil .nil)))) (.node (o14 p P) (.node (o22 p P) (.node (o38 p P) (.node (o70 p P) (.node (o134 p P) .nil .nil) .nil) (.node (o102 p P) .nil .nil)) (.node (o54 p P) (.node (o86 p P) .nil .nil) (.node (o118 p P) .nil .nil))) (.node (o30 p P) (.node (o46 p P) (.node (o78 p P) .nil .nil) (.node (o110 p P) .nil .nil)) (.node (o62 p P) (.node (o94 p P) .nil .nil) (.node (o126 p P) .nil .nil)))))))
noncomputable def S_4 (p : Program) (w : World) (os : OsState) : SharedT := ⟨t_4 p w.params, 140, {}, ⟨[]⟩, boot_drawn, 672, os⟩
noncomputable def t_38 (p : Program) (P : Params) : BT := (.node (o0 p P) (.node (o1 p P) (.node (o3_38 p P) (.node (o7 p P) (.node (o15 p P) (.node (o31 p P) (.node (o63 p P) (.node (o127 p P) (.node (o255 p P) .nil .nil) .nil) (.node (o191 p P) .nil .nil)) (.node (o95 p P) (.node (o159 p P) (.node (o287 p P) .nil .nil) .nil) (.node (o223 p P) .nil .nil))) (.node (o47 p P) (.node (o79 p P) (.node (o143 p P) (.node (o271 p P) .nil .nil) .nil) (.node (o207 p P) .nil .nil)) (.node (o111 p P) (.node (o175 p P) (.node (o303 p P) .nil .nil) .nil) (.node (o239 p P) .nil .nil)))) (.node (o23 p P) (.node (o39 p P) (.node (o71 p P) (.node (o135 p P) (.node (o263 p P) .nil .nil) .nil) (.node (o199 p P) .nil .nil)) (.node (o103 p P) (.node (o167 p P) (.node (o295 p P) .nil .nil) .nil) (.node (o231 p P) .nil .nil))) (.node (o55 p P) (.node (o87 p P) (.node (o151 p P) (.node (o279 p P) .nil .nil) .nil) (.node (o215 p P) .nil .nil)) (.node (o119 p P) (.node (o183 p P) .nil .nil) (.node (o247 p P) .nil .nil))))) (.node (o11 p P) (.node (o19 p P) (.node (o35 p P) (.node (o67 p P) (.node (o131 p P) (.node (o259 p P) .nil .nil) .nil) (.node (o195 p P) .nil .nil)) (.node (o99 p P) (.node (o163 p P) (.node (o291 p P) .nil .nil) .nil) (.node (o227 p P) .nil .nil))) (.node (o51 p P) (.node (o83 p P) (.node (o147 p P) (.node (o275 p P) .nil .nil) .nil) (.node (o211 p P) .nil .nil)) (.node (o115 p P) (.node (o179 p P) (.node (o307 p P) .nil .nil) .nil) (.node (o243 p P) .nil .nil)))) (.node (o27 p P) (.node (o43 p P) (.node (o75 p P) (.node (o139 p P) (.node (o267 p P) .nil .nil) .nil) (.node (o203 p P) .nil .nil)) (.node (o107 p P) (.node (o171 p P) (.node (o299 p P) .nil .nil) .nil) (.node (o235 p P) .nil .nil))) (.node (o59 p P) (.node (o91 p P) (.node (o155 p P) (.node (o283 p P) .nil .nil) .nil) (.node (o219 p P) .nil .nil)) (.node (o123 p P) (.node (o187 p P) .nil .nil) (.node (o251 p P) .nil .nil)))))) (.node (o5 p P) (.node (o9 p P) (.node (o17 p P) (.node (o33 p P) (.node (o65 p P) (.node (o129 p P) (.node (o257 p P) .nil .nil) .nil) (.node (o193 p P) .nil .nil)) (.node (o97 p P) (.node (o161 p P) (.node (o289 p P) .nil .nil) .nil) (.node (o225 p P) .nil .nil))) (.node (o49 p P) (.node (o81 p P) (.node (o145 p P) (.node (o273 p P) .nil .nil) .nil) (.node (o209 p P) .nil .nil)) (.node (o113 p P) (.node (o177 p P) (.node (o305 p P) .nil .nil) .nil) (.node (o241 p P) .nil .nil)))) (.node (o25 p P) (.node (o41 p P) (.node (o73 p P) (.node (o137 p P) (.node (o265 p P) .nil .nil) .nil) (.node (o201 p P) .nil .nil)) (.node (o105 p P) (.node (o169 p P) (.node (o297 p P) .nil .nil) .nil) (.node (o233 p P) .nil .nil))) (.node (o57 p P) (.node (o89 p P) (.node (o153 p P) (.node (o281 p P) .nil .nil) .nil) (.node (o217 p P) .nil .nil)) (.node (o121 p P) (.node (o185 p P) .nil .nil) (.node (o249 p P) .nil .nil))))) (.node (o13 p P) (.node (o21 p P) (.node (o37 p P) (.node (o69 p P) (.node (o133 p P) (.node (o261 p P) .nil .nil) .nil) (.node (o197 p P) .nil .nil)) (.node (o101 p P) (.node (o165 p P) (.node (o293 p P) .nil .nil) .nil) (.node (o229 p P) .nil .nil))) (.node (o53 p P) (.node (o85 p P) (.node (o149 p P) (.node (o277 p P) .nil .nil) .nil) (.node (o213 p P) .nil .nil)) (.node (o117 p P) (.node (o181 p P) (.node (o309 p P) .nil .nil) .nil) (.node (o245 p P) .nil .nil)))) (.node (o29 p P) (.node (o45 p P) (.node (o77 p P) (.node (o141 p P) (.node (o269 p P) .nil .nil) .nil) (.node (o205 p P) .nil .nil)) (.node (o109 p P) (.node (o173 p P) (.node (o301 p P) .nil .nil) .nil) (.node (o237 p P) .nil .nil))) (.node (o61 p P) (.node (o93 p P) (.node (o157 p P) (.node (o285 p P) .nil .nil) .nil) (.node (o221 p P) .nil .nil)) (.node (o125 p P) (.node (o189 p P) .nil .nil) (.node (o253 p P) .nil .nil))))))) (.node (o2_3 p P) (.node (o4 p P) (.node (o8 p P) (.node (o16 p P) (.node (o32 p P) (.node (o64 p P) (.node (o128 p P) (.node (o256 p P) .nil .nil) .nil) (.node (o192 p P) .nil .nil)) (.node (o96 p P) (.node (o160 p P) (.node (o288 p P) .nil .nil) .nil) (.node (o224 p P) .nil .nil))) (.node (o48 p P) (.node (o80 p P) (.node (o144 p P) (.node (o272 p P) .nil .nil) .nil) (.node (o208 p P) .nil .nil)) (.node (o112 p P) (.node (o176 p P) (.node (o304 p P) .nil .nil) .nil) (.node (o240 p P) .nil .nil)))) (.node (o24 p P) (.node (o40 p P) (.node (o72 p P) (.node (o136 p P) (.node (o264 p P) .nil .nil) .nil) (.node (o200 p P) .nil .nil)) (.node (o104 p P) (.node (o168 p P) (.node (o296 p P) .nil .nil) .nil) (.node (o232 p P) .nil .nil))) (.node (o56 p P) (.node (o88 p P) (.node (o152 p P) (.node (o280 p P) .nil .nil) .nil) (.node (o216 p P) .nil .nil)) (.node (o120 p P) (.node (o184 p P) .nil .nil) (.node (o248 p P) .nil .nil))))) (.node (o12_38 p P) (.node (o20 p P) (.node (o36 p P) (.node (o68 p P) (.node (o132 p P) (.node (o260 p P) .nil .nil) .nil) (.node (o196 p P) .nil .nil)) (.node (o100 p P) (.node (o164 p P) (.node (o292 p P) .nil .nil) .nil) (.node (o228 p P) .nil .nil))) (.node (o52 p P) (.node (o84 p P) (.node (o148 p P) (.node (o276 p P) .nil .nil) .nil) (.node (o212 p P) .nil .nil)) (.node (o116 p P) (.node (o180 p P) (.node (o308 p P) .nil .nil) .nil) (.node (o244 p P) .nil .nil)))) (.node (o28 p P) (.node (o44 p P) (.node (o76 p P) (.node (o140 p P) (.node (o268 p P) .nil .nil) .nil) (.node (o204 p P) .nil .nil)) (.node (o108 p P) (.node (o172 p P) (.node (o300 p P) .nil .nil) .nil) (.node (o236 p P) .nil .nil))) (.node (o60 p P) (.node (o92 p P) (.node (o156 p P) (.node (o284 p P) .nil .nil) .nil) (.node (o220 p P) .nil .nil)) (.node (o124 p P) (.node (o188 p P) .nil .nil) (.node (o252 p P) .nil .nil)))))) (.node (o6 p P) (.node (o10 p P) (.node (o18 p P) (.node (o34 p P) (.node (o66 p P) (.node (o130 p P) (.node (o258 p P) .nil .nil) .nil) (.node (o194 p P) .nil .nil)) (.node (o98 p P) (.node (o162 p P) (.node (o290 p P) .nil .nil) .nil) (.node (o226 p P) .nil .nil))) (.node (o50 p P) (.node (o82 p P) (.node (o146 p P) (.node (o274 p P) .nil .nil) .nil) (.node (o210 p P) .nil .nil)) (.node (o114 p P) (.node (o178 p P) (.node (o306 p P) .nil .nil) .nil) (.node (o242 p P) .nil .nil)))) (.node (o26 p P) (.node (o42 p P) (.node (o74 p P) (.node (o138 p P) (.node (o266 p P) .nil .nil) .nil) (.node (o202 p P) .nil .nil)) (.node (o106 p P) (.node (o170 p P) (.node (o298 p P) .nil .nil) .nil) (.node (o234 p P) .nil .nil))) (.node (o58 p P) (.node (o90 p P) (.node (o154 p P) (.node (o282 p P) .nil .nil) .nil) (.node (o218 p P) .nil .nil)) (.node (o122 p P) (.node (o186 p P) .nil .nil) (.node (o250 p P) .nil .nil))))) (.node (o14 p P) (.node (o22 p P) (.node (o38 p P) (.node (o70 p P) (.node (o134 p P) (.node (o262 p P) .nil .nil) .nil) (.node (o198 p P) .nil .nil)) (.node (o102 p P) (.node (o166 p P) (.node (o294 p P) .nil .nil) .nil) (.node (o230 p P) .nil .nil))) (.node (o54 p P) (.node (o86 p P) (.node (o150 p P) (.node (o278 p P) .nil .nil) .nil) (.node (o214 p P) .nil .nil)) (.node (o118 p P) (.node (o182 p P) .nil .nil) (.node (o246 p P) .nil .nil)))) (.node (o30 p P) (.node (o46 p P) (.node (o78 p P) (.node (o142 p P) (.node (o270 p P) .nil .nil) .nil) (.node (o206 p P) .nil .nil)) (.node (o110 p P) (.node (o174 p P) (.node (o302 p P) .nil .nil) .nil) (.node (o238 p P) .nil .nil))) (.node (o62 p P) (.node (o94 p P) (.node (o158 p P) (.node (o286 p P) .nil .nil) .nil) (.node (o222 p P) .nil .nil)) (.node (o126 p P) (.node (o190 p P) .nil .nil) (.node (o254 p P) .nil .nil))))))))
noncomputable def S_38 (p : Program) (w : World) (os : OsState) : SharedT := ⟨t_38 p w.params, 310, {}, ⟨[]⟩, boot_drawn, 994, os⟩
noncomputable def heapF (p : Program) (P : Params) : Heap := ⟨⟨[o0 p P, o1 p P, o2_3 p P, o3_38 p P, o4 p P, o5 p P, o6 p P, o7 p P, o8 p P, o9 p P, o10 p P, o11 p P, o12_38 p P, o13 p P, o14 p P, o15 p P, o16 p P, o17 p P, o18 p P, o19 p P, o20 p P, o21 p P, o22 p P, o23 p P, o24 p P, o25 p P, o26 p P, o27 p P, o28 p P, o29 p P, o30 p P, o31 p P, o32 p P, o33 p P, o34 p P, o35 p P, o36 p P, o37 p P, o38 p P, o39 p P, o40 p P, o41 p P, o42 p P, o43 p P, o44 p P, o45 p P, o46 p P, o47 p P, o48 p P, o49 p P, o50 p P, o51 p P, o52 p P, o53 p P, o54 p P, o55 p P, o56 p P, o57 p P, o58 p P, o59 p P, o60 p P, o61 p P, o62 p P, o63 p P, o64 p P, o65 p P, o66 p P, o67 p P, o68 p P, o69 p P, o70 p P, o71 p P, o72 p P, o73 p P, o74 p P, o75 p P, o76 p P, o77 p P, o78 p P, o79 p P, o80 p P, o81 p P, o82 p P, o83 p P, o84 p P, o85 p P, o86 p P, o87 p P, o88 p P, o89 p P, o90 p P, o91 p P, o92 p P, o93 p P, o94 p P, o95 p P, o96 p P, o97 p P, o98 p P, o99 p P, o100 p P, o101 p P, o102 p P, o103 p P, o104 p P, o105 p P, o106 p P, o107 p P, o108 p P, o109 p P, o110 p P, o111 p P, o112 p P, o113 p P, o114 p P, o115 p P, o116 p P, o117 p P, o118 p P, o119 p P, o120 p P, o121 p P, o122 p P, o123 p P, o124 p P, o125 p P, o126 p P, o127 p P, o128 p P, o129 p P, o130 p P, o131 p P, o132 p P, o133 p P, o134 p P, o135 p P, o136 p P, o137 p P, o138 p P, o139 p P, o140 p P, o141 p P, o142 p P, o143 p P, o144 p P, o145 p P, o146 p P, o147 p P, o148 p P, o149 p P, o150 p P, o151 p P, o152 p P, o153 p P, o154 p P, o155 p P, o156 p P, o157 p P, o158 p P, o159 p P, o160 p P, o161 p P, o162 p P, o163 p P, o164 p P, o165 p P, o166 p P, o167 p P, o168 p P, o169 p P, o170 p P, o171 p P, o172 p P, o173 p P, o174 p P, o175 p P, o176 p P, o177 p P, o178 p P, o179 p P, o180 p P, o181 p P, o182 p P, o183 p P, o184 p P, o185 p P, o186 p P, o187 p P, o188 p P, o189 p P, o190 p P, o191 p P, o192 p P, o193 p P, o194 p P, o195 p P, o196 p P, o197 p P, o198 p P, o199 p P, o200 p P, o201 p P, o202 p P, o203 p P, o204 p P, o205 p P, o206 p P, o207 p P, o208 p P, o209 p P, o210 p P, o211 p P, o212 p P, o213 p P, o214 p P, o215 p P, o216 p P, o217 p P, o218 p P, o219 p P, o220 p P, o221 p P, o222 p P, o223 p P, o224 p P, o225 p P, o226 p P, o227 p P, o228 p P, o229 p P, o230 p P, o231 p P, o232 p P, o233 p P, o234 p P, o235 p P, o236 p P, o237 p P, o238 p P, o239 p P, o240 p P, o241 p P, o242 p P, o243 p P, o244 p P, o245 p P, o246 p P, o247 p P, o248 p P, o249 p P, o250 p P, o251 p P, o252 p P, o253 p P, o254 p P, o255 p P, o256 p P, o257 p P, o258 p P, o259 p P, o260 p P, o261 p P, o262 p P, o263 p P, o264 p P, o265 p P, o266 p P, o267 p P, o268 p P, o269 p P, o270 p P, o271 p P, o272 p P, o273 p P, o274 p P, o275 p P, o276 p P, o277 p P, o278 p P, o279 p P, o280 p P, o281 p P, o282 p P, o283 p P, o284 p P, o285 p P, o286 p P, o287 p P, o288 p P, o289 p P, o290 p P, o291 p P, o292 p P, o293 p P, o294 p P, o295 p P, o296 p P, o297 p P, o298 p P, o299 p P, o300 p P, o301 p P, o302 p P, o303 p P, o304 p P, o305 p P, o306 p P, o307 p P, o308 p P, o309 p P]⟩, {}⟩
noncomputable def asF : List Addr := [0, 1, 2, 3, 4, 5, 6, 7, 8, 9, 10, 11, 12, 13, 14, 15, 22, 23, 24, 25, 26, 27, 28, 29, 30, 31, 32, 35, 42, 43, 44, 47, 48, 49, 50, 51, 52, 53, 54, 55, 56, 57, 58, 59, 60, 61, 62, 63, 64, 66, 67, 68, 69, 70, 71, 72, 73, 74, 75, 76, 77, 78, 79, 80, 81, 82, 84, 85, 86, 87, 88, 89, 90, 91, 92, 93, 94, 95, 96, 97, 98, 99, 100, 102, 103, 104, 105, 106, 107, 108, 109, 110, 111, 112, 113, 114, 115, 116, 117, 118, 120, 121, 122, 123, 124, 125, 126, 127, 128, 129, 130, 131, 132, 133, 134, 135, 136, 138, 139, 140, 141, 149, 150, 151, 152, 153, 154, 155, 156, 157, 158, 159, 160, 163, 164, 165, 166, 167, 168, 169, 170, 171, 172, 173, 174, 175, 176, 177, 178, 179, 180, 181, 182, 183, 184, 185, 186, 187, 188, 189, 190, 191, 192, 193, 194, 195, 196, 197, 198, 199, 200, 201, 202, 203, 204, 205, 206, 207, 208, 209, 210, 211, 212, 213, 214, 215, 216, 217, 218, 219, 220, 221, 222, 223, 224, 225, 226, 227, 228, 229, 230, 231, 232, 233, 234, 235, 236, 237, 238, 239, 240, 241, 242, 243, 244, 245, 246, 247, 248, 249, 250, 251, 252, 253, 254, 255, 256, 257, 258, 259, 260, 261, 262, 263, 264, 265, 266, 267, 268, 269, 270, 271, 272, 273, 274, 275, 276, 277, 278, 279, 280, 281, 282, 283, 284, 285, 286, 287, 288, 289, 290, 291, 292, 293, 294, 295, 296, 297, 298, 299, 300, 301, 302, 303, 304, 305, 306, 307, 308, 309]
noncomputable def fragT (p : Program) (P : Params) : Frag := [(0, o0 p P), (1, o1 p P), (2, o2_3 p P), (3, o3_38 p P), (4, o4 p P), (5, o5 p P), (6, o6 p P), (7, o7 p P), (8, o8 p P), (9, o9 p P), (10, o10 p P), (11, o11 p P), (12, o12_38 p P), (13, o13 p P), (14, o14 p P), (15, o15 p P), (22, o22 p P), (23, o23 p P), (24, o24 p P), (25, o25 p P), (26, o26 p P), (27, o27 p P), (28, o28 p P), (29, o29 p P), (30, o30 p P), (31, o31 p P), (32, o32 p P), (35, o35 p P), (42, o42 p P), (43, o43 p P), (44, o44 p P), (47, o47 p P), (48, o48 p P), (49, o49 p P), (50, o50 p P), (51, o51 p P), (52, o52 p P), (53, o53 p P), (54, o54 p P), (55, o55 p P), (56, o56 p P), (57, o57 p P), (58, o58 p P), (59, o59 p P), (60, o60 p P), (61, o61 p P), (62, o62 p P), (63, o63 p P), (64, o64 p P), (66, o66 p P), (67, o67 p P), (68, o68 p P), (69, o69 p P), (70, o70 p P), (71, o71 p P), (72, o72 p P), (73, o73 p P), (74, o74 p P), (75, o75 p P), (76, o76 p P), (77, o77 p P), (78, o78 p P), (79, o79 p P), (80, o80 p P), (81, o81 p P), (82, o82 p P), (84, o84 p P), (85, o85 p P), (86, o86 p P), (87, o87 p P), (88, o88 p P), (89, o89 p P), (90, o90 p P), (91, o91 p P), (92, o92 p P), (93, o93 p P), (94, o94 p P), (95, o95 p P), (96, o96 p P), (97, o97 p P), (98, o98 p P), (99, o99 p P), (100, o100 p P), (102, o102 p P), (103, o103 p P), (104, o104 p P), (105, o105 p P), (106, o106 p P), (107, o107 p P), (108, o108 p P), (109, o109 p P), (110, o110 p P), (111, o111 p P), (112, o112 p P), (113, o113 p P), (114, o114 p P), (115, o115 p P), (116, o116 p P), (117, o117 p P), (118, o118 p P), (120, o120 p P), (121, o121 p P), (122, o122 p P), (123, o123 p P), (124, o124 p P), (125, o125 p P), (126, o126 p P), (127, o127 p P), (128, o128 p P), (129, o129 p P), (130, o130 p P), (131, o131 p P), (132, o132 p P), (133, o133 p P), (134, o134 p P), (135, o135 p P), (136, o136 p P), (138, o138 p P), (139, o139 p P), (140, o140 p P), (141, o141 p P), (149, o149 p P), (150, o150 p P), (151, o151 p P), (152, o152 p P), (153, o153 p P), (154, o154 p P), (155, o155 p P), (156, o156 p P), (157, o157 p P), (158, o158 p P), (159, o159 p P), (160, o160 p P), (163, o163 p P), (164, o164 p P), (165, o165 p P), (166, o166 p P), (167, o167 p P), (168, o168 p P), (169, o169 p P), (170, o170 p P), (171, o171 p P), (172, o172 p P), (173, o173 p P), (174, o174 p P), (175, o175 p P), (176, o176 p P), (177, o177 p P), (178, o178 p P), (179, o179 p P), (180, o180 p P), (181, o181 p P), (182, o182 p P), (183, o183 p P), (184, o184 p P), (185, o185 p P), (186, o186 p P), (187, o187 p P), (188, o188 p P), (189, o189 p P), (190, o190 p P), (191, o191 p P), (192, o192 p P), (193, o193 p P), (194, o194 p P), (195, o195 p P), (196, o196 p P), (197, o197 p P), (198, o198 p P), (199, o199 p P), (200, o200 p P), (201, o201 p P), (202, o202 p P), (203, o203 p P), (204, o204 p P), (205, o205 p P), (206, o206 p P), (207, o207 p P), (208, o208 p P), (209, o209 p P), (210, o210 p P), (211, o211 p P), (212, o212 p P), (213, o213 p P), (214, o214 p P), (215, o215 p P), (216, o216 p P), (217, o217 p P), (218, o218 p P), (219, o219 p P), (220, o220 p P), (221, o221 p P), (222, o222 p P), (223, o223 p P), (224, o224 p P), (225, o225 p P), (226, o226 p P), (227, o227 p P), (228, o228 p P), (229, o229 p P), (230, o230 p P), (231, o231 p P), (232, o232 p P), (233, o233 p P), (234, o234 p P), (235, o235 p P), (236, o236 p P), (237, o237 p P), (238, o238 p P), (239, o239 p P), (240, o240 p P), (241, o241 p P), (242, o242 p P), (243, o243 p P), (244, o244 p P), (245, o245 p P), (246, o246 p P), (247, o247 p P), (248, o248 p P), (249, o249 p P), (250, o250 p P), (251, o251 p P), (252, o252 p P), (253, o253 p P), (254, o254 p P), (255, o255 p P), (256, o256 p P), (257, o257 p P), (258, o258 p P), (259, o259 p P), (260, o260 p P), (261, o261 p P), (262, o262 p P), (263, o263 p P), (264, o264 p P), (265, o265 p P), (266, o266 p P), (267, o267 p P), (268, o268 p P), (269, o269 p P), (270, o270 p P), (271, o271 p P), (272, o272 p P), (273, o273 p P), (274, o274 p P), (275, o275 p P), (276, o276 p P), (277, o277 p P), (278, o278 p P), (279, o279 p P), (280, o280 p P), (281, o281 p P), (282, o282 p P), (283, o283 p P), (284, o284 p P), (285, o285 p P), (286, o286 p P), (287, o287 p P), (288, o288 p P), (289, o289 p P), (290, o290 p P), (291, o291 p P), (292, o292 p P), (293, o293 p P), (294, o294 p P), (295, o295 p P), (296, o296 p P), (297, o297 p P), (298, o298 p P), (299, o299 p P), (300, o300 p P), (301, o301 p P), (302, o302 p P), (303, o303 p P), (304, o304 p P), (305, o305 p P), (306, o306 p P), (307, o307 p P), (308, o308 p P), (309, o309 p P)]
end Mine
end
section
open PySem PySem.W PyProof.Rows PySem.W.X
set_option maxRecDepth 100000
set_option maxHeartbeats 8000000

namespace Mine
noncomputable abbrev pN : Program := PySem.Challenge.pw_pp0050_01
theorem pE : pg = pN := rfl
noncomputable def envT (p : Program) : Env := { scope := p.main.scope, locals := mainNs, globals := mainNs, cells := [], code := .ref 13, frame := some 14 }
noncomputable def cT (p : Program) : Code := .body (behindTheImports p) (envT p)
noncomputable def sts1 (p : Program) : List Stmt := (behindTheImports p).take 4
noncomputable def sts2 (p : Program) : List Stmt := ((behindTheImports p).drop 4).take 1
noncomputable def sts3 (p : Program) : List Stmt := ((behindTheImports p).drop 4).drop 1
noncomputable abbrev q0 : Pos := ⟨0, 0, 0, 0⟩
noncomputable abbrev qa : Pos := ⟨9, 0, 9, 8⟩
noncomputable abbrev qb : Pos := ⟨10, 0, 10, 6⟩
noncomputable abbrev qc : Pos := ⟨215, 0, 221, 15⟩
theorem te_segT : segRunT = PySem.W.Fast.tw10110043849684766642 := PySem.W.Fast.te10110043849684766642
theorem te_topGo : topGo = PySem.W.Fast.tw15667345088766844465 := PySem.W.Fast.te15667345088766844465
theorem te_topRun : topRun = PySem.W.Fast.tw14082659384304107361 := PySem.W.Fast.te14082659384304107361
theorem te_table : treeTable = PySem.W.Fast.tw14364793385576792824 := PySem.W.Fast.te14364793385576792824
theorem te_denote : denote = PySem.W.Fast.tw11892475500146522536 := PySem.W.Fast.te11892475500146522536
theorem h_pre : ∀ (w : World) (os : OsState), topGo treeTable pN w 11 (some (.ref 6)) 12 ⟨boot_heap w.params, ⟨[]⟩, boot_drawn, boot_toks, os⟩ (topStub pN) = some ((S_a pN w os).abs, ⟨denote treeTable (cT pN), cT pN, q0, [topFrame q0]⟩) := by
  rw [te_topGo, te_table, te_denote]
  intro w os
  kernel_rfl
theorem h_block : ∀ (w : World) (os : OsState), segRunT treeTable pN w 11 (some (.ref 6)) 1 1 (S_a pN w os) (blockOf (behindTheImports pN) (envT pN) (cT pN) q0 [topFrame q0]) = some (.next, S_a pN w os, cT pN, q0) := by
  rw [te_segT, te_table]
  intro w os
  kernel_rfl
theorem h_1 : ∀ (w : World) (os : OsState), segRunT treeTable pN w 11 (some (.ref 6)) 1 460 (S_a pN w os) (piecesOf (sts1 pN) (envT pN) (cT pN) q0 [topFrame q0]) = some (.next, S_3 pN w os, cT pN, qa) := by
  rw [te_segT, te_table]
  intro w os
  kernel_rfl
end Mine
end
section
open PySem PySem.W PyProof.Rows PySem.W.X
set_option maxRecDepth 100000
set_option maxHeartbeats 8000000

namespace Mine
noncomputable def o47_c1 (p : Program) (P : Params) : Obj := ⟨(.type "dict"),.none,(.dict ⟨[⟨(PyData.keyHash P s183),(.str s183 236),(.ref 48)⟩,⟨(PyData.keyHash P s184),(.str s184 241),(.ref 49)⟩,⟨(PyData.keyHash P s185),(.str s185 246),(.ref 50)⟩,⟨(PyData.keyHash P s186),(.str s186 251),(.ref 51)⟩,⟨(PyData.keyHash P s187),(.str s187 256),(.ref 52)⟩,⟨(PyData.keyHash P s74),(.str s74 261),(.ref 53)⟩,⟨(PyData.keyHash P s188),(.str s188 266),(.ref 54)⟩,⟨(PyData.keyHash P s189),(.str s189 271),(.ref 55)⟩,⟨(PyData.keyHash P s190),(.str s190 276),(.ref 56)⟩,⟨(PyData.keyHash P s191),(.str s191 281),(.ref 57)⟩,⟨(PyData.keyHash P s192),(.str s192 286),(.ref 58)⟩,⟨(PyData.keyHash P s193),(.str s193 291),(.ref 59)⟩,⟨(PyData.keyHash P s194),(.str s194 296),(.ref 60)⟩,⟨(PyData.keyHash P s195),(.str s195 301),(.ref 61)⟩,⟨(PyData.keyHash P s196),(.str s196 306),(.ref 62)⟩,⟨(PyData.keyHash P s197),(.str s197 311),(.ref 63)⟩,⟨(PyData.keyHash P s198),(.str s198 316),(.ref 64)⟩]⟩ 17),⟨[]⟩⟩
noncomputable def t_c1 (p : Program) (P : Params) : BT := (.node (o0 p P) (.node (o1 p P) (.node (o3_3 p P) (.node (o7 p P) (.node (o15 p P) (.node (o31 p P) (.node (o63 p P) .nil .nil) .nil) (.node (o47_c1 p P) .nil .nil)) (.node (o23 p P) (.node (o39 p P) .nil .nil) (.node (o55 p P) .nil .nil))) (.node (o11 p P) (.node (o19 p P) (.node (o35 p P) .nil .nil) (.node (o51 p P) .nil .nil)) (.node (o27 p P) (.node (o43 p P) .nil .nil) (.node (o59 p P) .nil .nil)))) (.node (o5 p P) (.node (o9 p P) (.node (o17 p P) (.node (o33 p P) .nil .nil) (.node (o49 p P) .nil .nil)) (.node (o25 p P) (.node (o41 p P) .nil .nil) (.node (o57 p P) .nil .nil))) (.node (o13 p P) (.node (o21 p P) (.node (o37 p P) .nil .nil) (.node (o53 p P) .nil .nil)) (.node (o29 p P) (.node (o45 p P) .nil .nil) (.node (o61 p P) .nil .nil))))) (.node (o2_3 p P) (.node (o4 p P) (.node (o8 p P) (.node (o16 p P) (.node (o32 p P) (.node (o64 p P) .nil .nil) .nil) (.node (o48 p P) .nil .nil)) (.node (o24 p P) (.node (o40 p P) .nil .nil) (.node (o56 p P) .nil .nil))) (.node (o12_3 p P) (.node (o20 p P) (.node (o36 p P) .nil .nil) (.node (o52 p P) .nil .nil)) (.node (o28 p P) (.node (o44 p P) .nil .nil) (.node (o60 p P) .nil .nil)))) (.node (o6 p P) (.node (o10 p P) (.node (o18 p P) (.node (o34 p P) .nil .nil) (.node (o50 p P) .nil .nil)) (.node (o26 p P) (.node (o42 p P) .nil .nil) (.node (o58 p P) .nil .nil))) (.node (o14 p P) (.node (o22 p P) (.node (o38 p P) .nil .nil) (.node (o54 p P) .nil .nil)) (.node (o30 p P) (.node (o46 p P) .nil .nil) (.node (o62 p P) .nil .nil))))))
noncomputable def S_c1 (p : Program) (w : World) (os : OsState) : SharedT := ⟨t_c1 p w.params, 65, {}, ⟨[]⟩, boot_drawn, 321, os⟩
noncomputable def o47_c2 (p : Program) (P : Params) : Obj := ⟨(.type "dict"),.none,(.dict ⟨[⟨(PyData.keyHash P s183),(.str s183 236),(.ref 48)⟩,⟨(PyData.keyHash P s184),(.str s184 241),(.ref 49)⟩,⟨(PyData.keyHash P s185),(.str s185 246),(.ref 50)⟩,⟨(PyData.keyHash P s186),(.str s186 251),(.ref 51)⟩,⟨(PyData.keyHash P s187),(.str s187 256),(.ref 52)⟩,⟨(PyData.keyHash P s74),(.str s74 261),(.ref 53)⟩,⟨(PyData.keyHash P s188),(.str s188 266),(.ref 54)⟩,⟨(PyData.keyHash P s189),(.str s189 271),(.ref 55)⟩,⟨(PyData.keyHash P s190),(.str s190 276),(.ref 56)⟩,⟨(PyData.keyHash P s191),(.str s191 281),(.ref 57)⟩,⟨(PyData.keyHash P s192),(.str s192 286),(.ref 58)⟩,⟨(PyData.keyHash P s193),(.str s193 291),(.ref 59)⟩,⟨(PyData.keyHash P s194),(.str s194 296),(.ref 60)⟩,⟨(PyData.keyHash P s195),(.str s195 301),(.ref 61)⟩,⟨(PyData.keyHash P s196),(.str s196 306),(.ref 62)⟩,⟨(PyData.keyHash P s197),(.str s197 311),(.ref 63)⟩,⟨(PyData.keyHash P s198),(.str s198 316),(.ref 64)⟩,⟨(PyData.keyHash P s199),(.str s199 321),(.ref 66)⟩,⟨(PyData.keyHash P s200),(.str s200 326),(.ref 67)⟩,⟨(PyData.keyHash P s201),(.str s201 331),(.ref 68)⟩,⟨(PyData.keyHash P s202),(.str s202 336),(.ref 69)⟩,⟨(PyData.keyHash P s203),(.str s203 341),(.ref 70)⟩,⟨(PyData.keyHash P s204),(.str s204 346),(.ref 71)⟩,⟨(PyData.keyHash P s205),(.str s205 351),(.ref 72)⟩,⟨(PyData.keyHash P s206),(.str s206 356),(.ref 73)⟩,⟨(PyData.keyHash P s207),(.str s207 361),(.ref 74)⟩,⟨(PyData.keyHash P s208),(.str s208 366),(.ref 75)⟩,⟨(PyData.keyHash P s209),(.str s209 371),(.ref 76)⟩,⟨(PyData.keyHash P s210),(.str s210 376),(.ref 77)⟩,⟨(PyData.keyHash P s211),(.str s211 381),(.ref 78)⟩,⟨(PyData.keyHash P s212),(.str s212 386),(.ref 79)⟩,⟨(PyData.keyHash P s213),(.str s213 391),(.ref 80)⟩,⟨(PyData.keyHash P s214),(.str s214 396),(.ref 81)⟩,⟨(PyData.keyHash P s215),(.str s215 401),(.ref 82)⟩]⟩ 34),⟨[]⟩⟩
noncomputable def t_c2 (p : Program) (P : Params) : BT := (.node (o0 p P) (.node (o1 p P) (.node (o3_3 p P) (.node (o7 p P) (.node (o15 p P) (.node (o31 p P) (.node (o63 p P) .nil .nil) .nil) (.node (o47_c2 p P) (.node (o79 p P) .nil .nil) .nil)) (.node (o23 p P) (.node (o39 p P) (.node (o71 p P) .nil .nil) .nil) (.node (o55 p P) .nil .nil))) (.node (o11 p P) (.node (o19 p P) (.node (o35 p P) (.node (o67 p P) .nil .nil) .nil) (.node (o51 p P) .nil .nil)) (.node (o27 p P) (.node (o43 p P) (.node (o75 p P) .nil .nil) .nil) (.node (o59 p P) .nil .nil)))) (.node (o5 p P) (.node (o9 p P) (.node (o17 p P) (.node (o33 p P) (.node (o65 p P) .nil .nil) .nil) (.node (o49 p P) (.node (o81 p P) .nil .nil) .nil)) (.node (o25 p P) (.node (o41 p P) (.node (o73 p P) .nil .nil) .nil) (.node (o57 p P) .nil .nil))) (.node (o13 p P) (.node (o21 p P) (.node (o37 p P) (.node (o69 p P) .nil .nil) .nil) (.node (o53 p P) .nil .nil)) (.node (o29 p P) (.node (o45 p P) (.node (o77 p P) .nil .nil) .nil) (.node (o61 p P) .nil .nil))))) (.node (o2_3 p P) (.node (o4 p P) (.node (o8 p P) (.node (o16 p P) (.node (o32 p P) (.node (o64 p P) .nil .nil) .nil) (.node (o48 p P) (.node (o80 p P) .nil .nil) .nil)) (.node (o24 p P) (.node (o40 p P) (.node (o72 p P) .nil .nil) .nil) (.node (o56 p P) .nil .nil))) (.node (o12_3 p P) (.node (o20 p P) (.node (o36 p P) (.node (o68 p P) .nil .nil) .nil) (.node (o52 p P) .nil .nil)) (.node (o28 p P) (.node (o44 p P) (.node (o76 p P) .nil .nil) .nil) (.node (o60 p P) .nil .nil)))) (.node (o6 p P) (.node (o10 p P) (.node (o18 p P) (.node (o34 p P) (.node (o66 p P) .nil .nil) .nil) (.node (o50 p P) (.node (o82 p P) .nil .nil) .nil)) (.node (o26 p P) (.node (o42 p P) (.node (o74 p P) .nil .nil) .nil) (.node (o58 p P) .nil .nil))) (.node (o14 p P) (.node (o22 p P) (.node (o38 p P) (.node (o70 p P) .nil .nil) .nil) (.node (o54 p P) .nil .nil)) (.node (o30 p P) (.node (o46 p P) (.node (o78 p P) .nil .nil) .nil) (.node (o62 p P) .nil .nil))))))
noncomputable def S_c2 (p : Program) (w : World) (os : OsState) : SharedT := ⟨t_c2 p w.params, 83, {}, ⟨[]⟩, boot_drawn, 406, os⟩
noncomputable def o47_c3 (p : Program) (P : Params) : Obj := ⟨(.type "dict"),.none,(.dict ⟨[⟨(PyData.keyHash P s183),(.str s183 236),(.ref 48)⟩,⟨(PyData.keyHash P s184),(.str s184 241),(.ref 49)⟩,⟨(PyData.keyHash P s185),(.str s185 246),(.ref 50)⟩,⟨(PyData.keyHash P s186),(.str s186 251),(.ref 51)⟩,⟨(PyData.keyHash P s187),(.str s187 256),(.ref 52)⟩,⟨(PyData.keyHash P s74),(.str s74 261),(.ref 53)⟩,⟨(PyData.keyHash P s188),(.str s188 266),(.ref 54)⟩,⟨(PyData.keyHash P s189),(.str s189 271),(.ref 55)⟩,⟨(PyData.keyHash P s190),(.str s190 276),(.ref 56)⟩,⟨(PyData.keyHash P s191),(.str s191 281),(.ref 57)⟩,⟨(PyData.keyHash P s192),(.str s192 286),(.ref 58)⟩,⟨(PyData.keyHash P s193),(.str s193 291),(.ref 59)⟩,⟨(PyData.keyHash P s194),(.str s194 296),(.ref 60)⟩,⟨(PyData.keyHash P s195),(.str s195 301),(.ref 61)⟩,⟨(PyData.keyHash P s196),(.str s196 306),(.ref 62)⟩,⟨(PyData.keyHash P s197),(.str s197 311),(.ref 63)⟩,⟨(PyData.keyHash P s198),(.str s198 316),(.ref 64)⟩,⟨(PyData.keyHash P s199),(.str s199 321),(.ref 66)⟩,⟨(PyData.keyHash P s200),(.str s200 326),(.ref 67)⟩,⟨(PyData.keyHash P s201),(.str s201 331),(.ref 68)⟩,⟨(PyData.keyHash P s202),(.str s202 336),(.ref 69)⟩,⟨(PyData.keyHash P s203),(.str s203 341),(.ref 70)⟩,⟨(PyData.keyHash P s204),(.str s204 346),(.ref 71)⟩,⟨(PyData.keyHash P s205),(.str s205 351),(.ref 72)⟩,⟨(PyData.keyHash P s206),(.str s206 356),(.ref 73)⟩,⟨(PyData.keyHash P s207),(.str s207 361),(.ref 74)⟩,⟨(PyData.keyHash P s208),(.str s208 366),(.ref 75)⟩,⟨(PyData.keyHash P s209),(.str s209 371),(.ref 76)⟩,⟨(PyData.keyHash P s210),(.str s210 376),(.ref 77)⟩,⟨(PyData.keyHash P s211),(.str s211 381),(.ref 78)⟩,⟨(PyData.keyHash P s212),(.str s212 386),(.ref 79)⟩,⟨(PyData.keyHash P s213),(.str s213 391),(.ref 80)⟩,⟨(PyData.keyHash P s214),(.str s214 396),(.ref 81)⟩,⟨(PyData.keyHash P s215),(.str s215 401),(.ref 82)⟩,⟨(PyData.keyHash P s216),(.str s216 406),(.ref 84)⟩,⟨(PyData.keyHash P s217),(.str s217 411),(.ref 85)⟩,⟨(PyData.keyHash P s218),(.str s218 416),(.ref 86)⟩,⟨(PyData.keyHash P s219),(.str s219 421),(.ref 87)⟩,⟨(PyData.keyHash P s220),(.str s220 426),(.ref 88)⟩,⟨(PyData.keyHash P s221),(.str s221 431),(.ref 89)⟩,⟨(PyData.keyHash P s222),(.str s222 436),(.ref 90)⟩,⟨(PyData.keyHash P s223),(.str s223 441),(.ref 91)⟩,⟨(PyData.keyHash P s224),(.str s224 446),(.ref 92)⟩,⟨(PyData.keyHash P s225),(.str s225 451),(.ref 93)⟩,⟨(PyData.keyHash P s226),(.str s226 456),(.ref 94)⟩,⟨(PyData.keyHash P s227),(.str s227 461),(.ref 95)⟩,⟨(PyData.keyHash P s228),(.str s228 466),(.ref 96)⟩,⟨(PyData.keyHash P s45),(.str s45 471),(.ref 97)⟩,⟨(PyData.keyHash P s229),(.str s229 476),(.ref 98)⟩,⟨(PyData.keyHash P s230),(.str s230 481),(.ref 99)⟩,⟨(PyData.keyHash P s231),(.str s231 486),(.ref 100)⟩]⟩ 51),⟨[]⟩⟩
noncomputable def t_c3 (p : Program) (P : Params) : BT := (.node (o0 p P) (.node (o1 p P) (.node (o3_3 p P) (.node (o7 p P) (.node (o15 p P) (.node (o31 p P) (.node (o63 p P) .nil .nil) (.node (o95 p P) .nil .nil)) (.node (o47_c3 p P) (.node (o79 p P) .nil .nil) .nil)) (.node (o23 p P) (.node (o39 p P) (.node (o71 p P) .nil .nil) .nil) (.node (o55 p P) (.node (o87 p P) .nil .nil) .nil))) (.node (o11 p P) (.node (o19 p P) (.node (o35 p P) (.node (o67 p P) .nil .nil) (.node (o99 p P) .nil .nil)) (.node (o51 p P) (.node (o83 p P) .nil .nil) .nil)) (.node (o27 p P) (.node (o43 p P) (.node (o75 p P) .nil .nil) .nil) (.node (o59 p P) (.node (o91 p P) .nil .nil) .nil)))) (.node (o5 p P) (.node (o9 p P) (.node (o17 p P) (.node (o33 p P) (.node (o65 p P) .nil .nil) (.node (o97 p P) .nil .nil)) (.node (o49 p P) (.node (o81 p P) .nil .nil) .nil)) (.node (o25 p P) (.node (o41 p P) (.node (o73 p P) .nil .nil) .nil) (.node (o57 p P) (.node (o89 p P) .nil .nil) .nil))) (.node (o13 p P) (.node (o21 p P) (.node (o37 p P) (.node (o69 p P) .nil .nil) .nil) (.node (o53 p P) (.node (o85 p P) .nil .nil) .nil)) (.node (o29 p P) (.node (o45 p P) (.node (o77 p P) .nil .nil) .nil) (.node (o61 p P) (.node (o93 p P) .nil .nil) .nil))))) (.node (o2_3 p P) (.node (o4 p P) (.node (o8 p P) (.node (o16 p P) (.node (o32 p P) (.node (o64 p P) .nil .nil) (.node (o96 p P) .nil .nil)) (.node (o48 p P) (.node (o80 p P) .nil .nil) .nil)) (.node (o24 p P) (.node (o40 p P) (.node (o72 p P) .nil .nil) .nil) (.node (o56 p P) (.node (o88 p P) .nil .nil) .nil))) (.node (o12_3 p P) (.node (o20 p P) (.node (o36 p P) (.node (o68 p P) .nil .nil) (.node (o100 p P) .nil .nil)) (.node (o52 p P) (.node (o84 p P) .nil .nil) .nil)) (.node (o28 p P) (.node (o44 p P) (.node (o76 p P) .nil .nil) .nil) (.node (o60 p P) (.node (o92 p P) .nil .nil) .nil)))) (.node (o6 p P) (.node (o10 p P) (.node (o18 p P) (.node (o34 p P) (.node (o66 p P) .nil .nil) (.node (o98 p P) .nil .nil)) (.node (o50 p P) (.node (o82 p P) .nil .nil) .nil)) (.node (o26 p P) (.node (o42 p P) (.node (o74 p P) .nil .nil) .nil) (.node (o58 p P) (.node (o90 p P) .nil .nil) .nil))) (.node (o14 p P) (.node (o22 p P) (.node (o38 p P) (.node (o70 p P) .nil .nil) .nil) (.node (o54 p P) (.node (o86 p P) .nil .nil) .nil)) (.node (o30 p P) (.node (o46 p P) (.node (o78 p P) .nil .nil) .nil) (.node (o62 p P) (.node (o94 p P) .nil .nil) .nil))))))
noncomputable def S_c3 (p : Program) (w : World) (os : OsState) : SharedT := ⟨t_c3 p w.params, 101, {}, ⟨[]⟩, boot_drawn, 491, os⟩
noncomputable def o47_c4 (p : Program) (P : Params) : Obj := ⟨(.type "dict"),.none,(.dict ⟨[⟨(PyData.keyHash P s183),(.str s183 236),(.ref 48)⟩,⟨(PyData.keyHash P s184),(.str s184 241),(.ref 49)⟩,⟨(PyData.keyHash P s185),(.str s185 246),(.ref 50)⟩,⟨(PyData.keyHash P s186),(.str s186 251),(.ref 51)⟩,⟨(PyData.keyHash P s187),(.str s187 256),(.ref 52)⟩,⟨(PyData.keyHash P s74),(.str s74 261),(.ref 53)⟩,⟨(PyData.keyHash P s188),(.str s188 266),(.ref 54)⟩,⟨(PyData.keyHash P s189),(.str s189 271),(.ref 55)⟩,⟨(PyData.keyHash P s190),(.str s190 276),(.ref 56)⟩,⟨(PyData.keyHash P s191),(.str s191 281),(.ref 57)⟩,⟨(PyData.keyHash P s192),(.str s192 286),(.ref 58)⟩,⟨(PyData.keyHash P s193),(.str s193 291),(.ref 59)⟩,⟨(PyData.keyHash P s194),(.str s194 296),(.ref 60)⟩,⟨(PyData.keyHash P s195),(.str s195 301),(.ref 61)⟩,⟨(PyData.keyHash P s196),(.str s196 306),(.ref 62)⟩,⟨(PyData.keyHash P s197),(.str s197 311),(.ref 63)⟩,⟨(PyData.keyHash P s198),(.str s198 316),(.ref 64)⟩,⟨(PyData.keyHash P s199),(.str s199 321),(.ref 66)⟩,⟨(PyData.keyHash P s200),(.str s200 326),(.ref 67)⟩,⟨(PyData.keyHash P s201),(.str s201 331),(.ref 68)⟩,⟨(PyData.keyHash P s202),(.str s202 336),(.ref 69)⟩,⟨(PyData.keyHash P s203),(.str s203 341),(.ref 70)⟩,⟨(PyData.keyHash P s204),(.str s204 346),(.ref 71)⟩,⟨(PyData.keyHash P s205),(.str s205 351),(.ref 72)⟩,⟨(PyData.keyHash P s206),(.str s206 356),(.ref 73)⟩,⟨(PyData.keyHash P s207),(.str s207 361),(.ref 74)⟩,⟨(PyData.keyHash P s208),(.str s208 366),(.ref 75)⟩,⟨(PyData.keyHash P s209),(.str s209 371),(.ref 76)⟩,⟨(PyData.keyHash P s210),(.str s210 376),(.ref 77)⟩,⟨(PyData.keyHash P s211),(.str s211 381),(.ref 78)⟩,⟨(PyData.keyHash P s212),(.str s212 386),(.ref 79)⟩,⟨(PyData.keyHash P s213),(.str s213 391),(.ref 80)⟩,⟨(PyData.keyHash P s214),(.str s214 396),(.ref 81)⟩,⟨(PyData.keyHash P s215),(.str s215 401),(.ref 82)⟩,⟨(PyData.keyHash P s216),(.str s216 406),(.ref 84)⟩,⟨(PyData.keyHash P s217),(.str s217 411),(.ref 85)⟩,⟨(PyData.keyHash P s218),(.str s218 416),(.ref 86)⟩,⟨(PyData.keyHash P s219),(.str s219 421),(.ref 87)⟩,⟨(PyData.keyHash P s220),(.str s220 426),(.ref 88)⟩,⟨(PyData.keyHash P s221),(.str s221 431),(.ref 89)⟩,⟨(PyData.keyHash P s222),(.str s222 436),(.ref 90)⟩,⟨(PyData.keyHash P s223),(.str s223 441),(.ref 91)⟩,⟨(PyData.keyHash P s224),(.str s224 446),(.ref 92)⟩,⟨(PyData.keyHash P s225),(.str s225 451),(.ref 93)⟩,⟨(PyData.keyHash P s226),(.str s226 456),(.ref 94)⟩,⟨(PyData.keyHash P s227),(.str s227 461),(.ref 95)⟩,⟨(PyData.keyHash P s228),(.str s228 466),(.ref 96)⟩,⟨(PyData.keyHash P s45),(.str s45 471),(.ref 97)⟩,⟨(PyData.keyHash P s229),(.str s229 476),(.ref 98)⟩,⟨(PyData.keyHash P s230),(.str s230 481),(.ref 99)⟩,⟨(PyData.keyHash P s231),(.str s231 486),(.ref 100)⟩,⟨(PyData.keyHash P s232),(.str s232 491),(.ref 102)⟩,⟨(PyData.keyHash P s233),(.str s233 496),(.ref 103)⟩,⟨(PyData.keyHash P s234),(.str s234 501),(.ref 104)⟩,⟨(PyData.keyHash P s235),(.str s235 506),(.ref 105)⟩,⟨(PyData.keyHash P s236),(.str s236 511),(.ref 106)⟩,⟨(PyData.keyHash P s237),(.str s237 516),(.ref 107)⟩,⟨(PyData.keyHash P s238),(.str s238 521),(.ref 108)⟩,⟨(PyData.keyHash P s239),(.str s239 526),(.ref 109)⟩,⟨(PyData.keyHash P s240),(.str s240 531),(.ref 110)⟩,⟨(PyData.keyHash P s241),(.str s241 536),(.ref 111)⟩,⟨(PyData.keyHash P s242),(.str s242 541),(.ref 112)⟩,⟨(PyData.keyHash P s243),(.str s243 546),(.ref 113)⟩,⟨(PyData.keyHash P s244),(.str s244 551),(.ref 114)⟩,⟨(PyData.keyHash P s245),(.str s245 556),(.ref 115)⟩,⟨(PyData.keyHash P s246),(.str s246 561),(.ref 116)⟩,⟨(PyData.keyHash P s247),(.str s247 566),(.ref 117)⟩,⟨(PyData.keyHash P s248),(.str s248 571),(.ref 118)⟩]⟩ 68),⟨[]⟩⟩
noncomputable def t_c4 (p : Program) (P : Params) : BT := (.node (o0 p P) (.node (o1 p P) (.node (o3_3 p P) (.node (o7 p P) (.node (o15 p P) (.node (o31 p P) (.node (o63 p P) .nil .nil) (.node (o95 p P) .nil .nil)) (.node (o47_c4 p P) (.node (o79 p P) .nil .nil) (.node (o111 p P) .nil .nil))) (.node (o23 p P) (.node (o39 p P) (.node (o71 p P) .nil .nil) (.node (o103 p P) .nil .nil)) (.node (o55 p P) (.node (o87 p P) .nil .nil) .nil))) (.node (o11 p P) (.node (o19 p P) (.node (o35 p P) (.node (o67 p P) .nil .nil) (.node (o99 p P) .nil .nil)) (.node (o51 p P) (.node (o83 p P) .nil .nil) (.node (o115 p P) .nil .nil))) (.node (o27 p P) (.node (o43 p P) (.node (o75 p P) .nil .nil) (.node (o107 p P) .nil .nil)) (.node (o59 p P) (.node (o91 p P) .nil .nil) .nil)))) (.node (o5 p P) (.node (o9 p P) (.node (o17 p P) (.node (o33 p P) (.node (o65 p P) .nil .nil) (.node (o97 p P) .nil .nil)) (.node (o49 p P) (.node (o81 p P) .nil .nil) (.node (o113 p P) .nil .nil))) (.node (o25 p P) (.node (o41 p P) (.node (o73 p P) .nil .nil) (.node (o105 p P) .nil .nil)) (.node (o57 p P) (.node (o89 p P) .nil .nil) .nil))) (.node (o13 p P) (.node (o21 p P) (.node (o37 p P) (.node (o69 p P) .nil .nil) (.node (o101 p P) .nil .nil)) (.node (o53 p P) (.node (o85 p P) .nil .nil) (.node (o117 p P) .nil .nil))) (.node (o29 p P) (.node (o45 p P) (.node (o77 p P) .nil .nil) (.node (o109 p P) .nil .nil)) (.node (o61 p P) (.node (o93 p P) .nil .nil) .nil))))) (.node (o2_3 p P) (.node (o4 p P) (.node (o8 p P) (.node (o16 p P) (.node (o32 p P) (.node (o64 p P) .nil .nil) (.node (o96 p P) .nil .nil)) (.node (o48 p P) (.node (o80 p P) .nil .nil) (.node (o112 p P) .nil .nil))) (.node (o24 p P) (.node (o40 p P) (.node (o72 p P) .nil .nil) (.node (o104 p P) .nil .nil)) (.node (o56 p P) (.node (o88 p P) .nil .nil) .nil))) (.node (o12_3 p P) (.node (o20 p P) (.node (o36 p P) (.node (o68 p P) .nil .nil) (.node (o100 p P) .nil .nil)) (.node (o52 p P) (.node (o84 p P) .nil .nil) (.node (o116 p P) .nil .nil))) (.node (o28 p P) (.node (o44 p P) (.node (o76 p P) .nil .nil) (.node (o108 p P) .nil .nil)) (.node (o60 p P) (.node (o92 p P) .nil .nil) .nil)))) (.node (o6 p P) (.node (o10 p P) (.node (o18 p P) (.node (o34 p P) (.node (o66 p P) .nil .nil) (.node (o98 p P) .nil .nil)) (.node (o50 p P) (.node (o82 p P) .nil .nil) (.node (o114 p P) .nil .nil))) (.node (o26 p P) (.node (o42 p P) (.node (o74 p P) .nil .nil) (.node (o106 p P) .nil .nil)) (.node (o58 p P) (.node (o90 p P) .nil .nil) .nil))) (.node (o14 p P) (.node (o22 p P) (.node (o38 p P) (.node (o70 p P) .nil .nil) (.node (o102 p P) .nil .nil)) (.node (o54 p P) (.node (o86 p P) .nil .nil) (.node (o118 p P) .nil .nil))) (.node (o30 p P) (.node (o46 p P) (.node (o78 p P) .nil .nil) (.node (o110 p P) .nil .nil)) (.node (o62 p P) (.node (o94 p P) .nil .nil) .nil))))))
noncomputable def S_c4 (p : Program) (w : World) (os : OsState) : SharedT := ⟨t_c4 p w.params, 119, {}, ⟨[]⟩, boot_drawn, 576, os⟩
/-- the tree behind j made dicts: answers that are not the machine's own, where they do not matter behind -/
noncomputable def skipF (S : Setting) : Nat → Nat → Sem Fin → Sem Fin
  | 0, _, t => t
  | n + 1, j, t => match t with
    | .rule _ k => skipF S n j (k ())
    | .at _ k => skipF S n j (k ())
    | .point _ k => skipF S n j (k ())
    | .update _ _ _ k => skipF S n j (k ())
    | .fresh k => skipF S n j (k 0)
    | .load _ _ k => skipF S n j (k { cls := .type "dict", data := .dict #[] })
    | .ask k => skipF S n j (k S)
    | .call _ _ _ _ k => skipF S n j (k (.ok (.ret (.int 0 0))))
    | .alloc o k => match o.data with
      | .dict _ _ => match j with
        | 0 => t
        | j + 1 => skipF S n j (k 47)
      | _ => skipF S n j (k 47)
    | t => t
noncomputable abbrev qd : Pos := ⟨10, 9, 10, 2074⟩
noncomputable def thC (p : Program) (w : World) (j : Nat) : Thread := ⟨skipF ⟨p, w.params⟩ 4000 j (piecesOf (sts2 p) (envT p) (cT p) qa [topFrame q0]).cur, cT p, qd, [topFrame q0]⟩
theorem te_segGoT : segGoT = PySem.W.Fast.tw10295753902157049106 := PySem.W.Fast.te10295753902157049106
theorem h_2f1 : ∀ (w : World) (os : OsState), segGoT treeTable pN (w.withFollow "special-get-raises" false) 11 (some (.ref 6)) 1 327 (S_3 pN (w.withFollow "special-get-raises" false) os) (piecesOf (sts2 pN) (envT pN) (cT pN) qa [topFrame q0]) = some (S_c1 pN (w.withFollow "special-get-raises" false) os, thC pN (w.withFollow "special-get-raises" false) 1) := by
  rw [te_segGoT, te_table]
  intro w os
  kernel_rfl
theorem h_2f2 : ∀ (w : World) (os : OsState), segGoT treeTable pN (w.withFollow "special-get-raises" false) 11 (some (.ref 6)) 1 432 (S_c1 pN (w.withFollow "special-get-raises" false) os) (thC pN (w.withFollow "special-get-raises" false) 1) = some (S_c2 pN (w.withFollow "special-get-raises" false) os, thC pN (w.withFollow "special-get-raises" false) 2) := by
  rw [te_segGoT, te_table]
  intro w os
  kernel_rfl
theorem h_2f3 : ∀ (w : World) (os : OsState), segGoT treeTable pN (w.withFollow "special-get-raises" false) 11 (some (.ref 6)) 1 432 (S_c2 pN (w.withFollow "special-get-raises" false) os) (thC pN (w.withFollow "special-get-raises" false) 2) = some (S_c3 pN (w.withFollow "special-get-raises" false) os, thC pN (w.withFollow "special-get-raises" false) 3) := by
  rw [te_segGoT, te_table]
  intro w os
  kernel_rfl
theorem h_2f4 : ∀ (w : World) (os : OsState), segGoT treeTable pN (w.withFollow "special-get-raises" false) 11 (some (.ref 6)) 1 432 (S_c3 pN (w.withFollow "special-get-raises" false) os) (thC pN (w.withFollow "special-get-raises" false) 3) = some (S_c4 pN (w.withFollow "special-get-raises" false) os, thC pN (w.withFollow "special-get-raises" false) 4) := by
  rw [te_segGoT, te_table]
  intro w os
  kernel_rfl
theorem h_2f5 : ∀ (w : World) (os : OsState), segRunT treeTable pN (w.withFollow "special-get-raises" false) 11 (some (.ref 6)) 1 496 (S_c4 pN (w.withFollow "special-get-raises" false) os) (thC pN (w.withFollow "special-get-raises" false) 4) = some (.next, S_4 pN (w.withFollow "special-get-raises" false) os, cT pN, qb) := by
  rw [te_segT, te_table]
  intro w os
  kernel_rfl
theorem h_2f : ∀ (w : World) (os : OsState), segRun treeTable pN (w.withFollow "special-get-raises" false) 11 (some (.ref 6)) 1 2119 (S_3 pN (w.withFollow "special-get-raises" false) os).abs (piecesOf (sts2 pN) (envT pN) (cT pN) qa [topFrame q0]) = some (.next, (S_4 pN (w.withFollow "special-get-raises" false) os).abs, cT pN, qb) := fun w os =>
  seg_go (n := 327) (N := 1792) (segGo_of (h_2f1 w os)) (seg_go (n := 432) (N := 1360) (segGo_of (h_2f2 w os)) (seg_go (n := 432) (N := 928) (segGo_of (h_2f3 w os)) (seg_go (n := 432) (N := 496) (segGo_of (h_2f4 w os)) (segRun_of (h_2f5 w os)))))
theorem h_2t1 : ∀ (w : World) (os : OsState), segGoT treeTable pN (w.withFollow "special-get-raises" true) 11 (some (.ref 6)) 1 327 (S_3 pN (w.withFollow "special-get-raises" true) os) (piecesOf (sts2 pN) (envT pN) (cT pN) qa [topFrame q0]) = some (S_c1 pN (w.withFollow "special-get-raises" true) os, thC pN (w.withFollow "special-get-raises" true) 1) := by
  rw [te_segGoT, te_table]
  intro w os
  kernel_rfl
theorem h_2t2 : ∀ (w : World) (os : OsState), segGoT treeTable pN (w.withFollow "special-get-raises" true) 11 (some (.ref 6)) 1 432 (S_c1 pN (w.withFollow "special-get-raises" true) os) (thC pN (w.withFollow "special-get-raises" true) 1) = some (S_c2 pN (w.withFollow "special-get-raises" true) os, thC pN (w.withFollow "special-get-raises" true) 2) := by
  rw [te_segGoT, te_table]
  intro w os
  kernel_rfl
theorem h_2t3 : ∀ (w : World) (os : OsState), segGoT treeTable pN (w.withFollow "special-get-raises" true) 11 (some (.ref 6)) 1 432 (S_c2 pN (w.withFollow "special-get-raises" true) os) (thC pN (w.withFollow "special-get-raises" true) 2) = some (S_c3 pN (w.withFollow "special-get-raises" true) os, thC pN (w.withFollow "special-get-raises" true) 3) := by
  rw [te_segGoT, te_table]
  intro w os
  kernel_rfl
theorem h_2t4 : ∀ (w : World) (os : OsState), segGoT treeTable pN (w.withFollow "special-get-raises" true) 11 (some (.ref 6)) 1 432 (S_c3 pN (w.withFollow "special-get-raises" true) os) (thC pN (w.withFollow "special-get-raises" true) 3) = some (S_c4 pN (w.withFollow "special-get-raises" true) os, thC pN (w.withFollow "special-get-raises" true) 4) := by
  rw [te_segGoT, te_table]
  intro w os
  kernel_rfl
theorem h_2t5 : ∀ (w : World) (os : OsState), segRunT treeTable pN (w.withFollow "special-get-raises" true) 11 (some (.ref 6)) 1 496 (S_c4 pN (w.withFollow "special-get-raises" true) os) (thC pN (w.withFollow "special-get-raises" true) 4) = some (.next, S_4 pN (w.withFollow "special-get-raises" true) os, cT pN, qb) := by
  rw [te_segT, te_table]
  intro w os
  kernel_rfl
theorem h_2t : ∀ (w : World) (os : OsState), segRun treeTable pN (w.withFollow "special-get-raises" true) 11 (some (.ref 6)) 1 2119 (S_3 pN (w.withFollow "special-get-raises" true) os).abs (piecesOf (sts2 pN) (envT pN) (cT pN) qa [topFrame q0]) = some (.next, (S_4 pN (w.withFollow "special-get-raises" true) os).abs, cT pN, qb) := fun w os =>
  seg_go (n := 327) (N := 1792) (segGo_of (h_2t1 w os)) (seg_go (n := 432) (N := 1360) (segGo_of (h_2t2 w os)) (seg_go (n := 432) (N := 928) (segGo_of (h_2t3 w os)) (seg_go (n := 432) (N := 496) (segGo_of (h_2t4 w os)) (segRun_of (h_2t5 w os)))))
theorem h_2 : ∀ (w : World) (os : OsState), segRun treeTable pN w 11 (some (.ref 6)) 1 2119 (S_3 pN w os).abs (piecesOf (sts2 pN) (envT pN) (cT pN) qa [topFrame q0]) = some (.next, (S_4 pN w os).abs, cT pN, qb) := byRow2 "special-get-raises" h_2f h_2t
theorem h_3 : ∀ (w : World) (os : OsState), segRunT treeTable pN w 11 (some (.ref 6)) 1 1343 (S_4 pN w os) (piecesOf (sts3 pN) (envT pN) (cT pN) qb [topFrame q0]) = some (.next, S_38 pN w os, cT pN, qc) := by
  rw [te_segT, te_table]
  refine byRow2 "special-get-raises" (fun w os => ?_) (fun w os => ?_)
  · kernel_rfl
  · kernel_rfl
theorem h_fin : ∀ (w : World) (os : OsState), topRun treeTable pN w 11 (some (.ref 6)) 2 (S_38 pN w os).abs ⟨doneF .next, cT pN, qc, [topFrame q0]⟩ = some ⟨heapF pN w.params, ⟨[]⟩, boot_drawn, 994, os⟩ := by
  rw [te_topRun, te_table]
  intro w os
  kernel_rfl
end Mine
end
section
open PySem PySem.W PyProof.Rows PySem.W.X
set_option maxRecDepth 100000
set_option maxHeartbeats 8000000

namespace Mine
theorem cut_body (p : Program) : behindTheImports p = sts1 p ++ (sts2 p ++ (sts3 p ++ [])) := by
  unfold sts1 sts2 sts3
  rw [List.append_nil, List.take_append_drop, List.take_append_drop]
theorem h_rest : ∀ (w : World) (os : OsState), topRun treeTable pN w 11 (some (.ref 6)) (460 + (2119 + (1343 + 2))) (S_a pN w os).abs (restOf (behindTheImports pN) (envT pN) (cT pN) q0 [topFrame q0]) = some ⟨heapF pN w.params, ⟨[]⟩, boot_drawn, 994, os⟩ := fun w os => by
  rw [cut_body]
  exact piece_app (segRun_of (h_1 w os)) (piece_app (h_2 w os) (piece_app (segRun_of (h_3 w os)) (h_fin w os)))
theorem h_run : ∀ (w : World) (os : OsState), topRun treeTable pN w 11 (some (.ref 6)) (12 + (1 + (460 + (2119 + (1343 + 2))))) ⟨boot_heap w.params, ⟨[]⟩, boot_drawn, boot_toks, os⟩ (topStub pN) = some ⟨heapF pN w.params, ⟨[]⟩, boot_drawn, 994, os⟩ := fun w os =>
  go_top (h_pre w os) (piece_block (env := envT pN) (b := behindTheImports pN) (segRun_of (h_block w os)) (h_rest w os))
theorem h_open : ∀ w : World, (fencedOpening treeTable pN w 7964).map (fun s => (s.heap, s.gens, s.drawn, s.toks)) = some (boot_heap w.params, ⟨[]⟩, boot_drawn, boot_toks) :=
  boot_open (by kernel_rfl) (by decide) (fun s => by kernel_rfl)
noncomputable def qv (p : Program) : Program := { p with main := { p.main with body := p.main.body.drop 38 } }
noncomputable def lo (p : Program) : List Str := ((p.main.body.take 38).flatMap bindsAtTop).filter fun x => !(x == Str.ofString "__name__")
theorem as_ok (p : Program) (P : Params) : asF = (fragT p P).map (·.1) := by kernel_rfl
noncomputable def hk (p : Program) : Hook := kHook (fragT p) asF (as_ok p)
theorem te_imp : importedModules = PySem.W.Fast.tw5923862056798008813 := PySem.W.Fast.te5923862056798008813
theorem te_seen : openSeen = PySem.W.Fast.tw4187177175401517315 := PySem.W.Fast.te4187177175401517315
theorem te_ns : Heap.nsMap = PySem.W.Fast.tw8920871248978507458 := PySem.W.Fast.te8920871248978507458
theorem h_size : ∀ w : World, ((boot_heap w.params).isNs mainGlobals && (Array.size (⟨[]⟩ : Array GenState)) == 0, (boot_heap w.params).objs.size, (boot_heap w.params).nsMap mainGlobals "__annotations__") = (true, 11, some (.ref 6)) := by
  rw [te_ns]
  intro w
  kernel_rfl
theorem h_look1 : ∀ (w : World) (os : OsState), (staticsOk (importedModules pN.main.body) (boot_heap w.params) (heapF pN w.params) && namesBound pN (heapF pN w.params) && gensDone ⟨heapF pN w.params, ⟨[]⟩, boot_drawn, 994, os⟩ && laidKept (boot_heap w.params) (heapF pN w.params)) = true := by
  rw [te_imp]
  intro w os
  kernel_rfl
theorem h_look3 : ∀ (w : World) (os : OsState), (hk pN).obs ⟨heapF pN w.params, ⟨[]⟩, boot_drawn, 994, os⟩ = (hk pN).val w := by
  intro w os
  kernel_rfl
theorem h_look2 : ∀ (w : World) (os : OsState), openSeen (qv pN) (lo pN) (importedModules pN.main.body) (fun s => xlAt (qv pN) [] s && recOk (RowW.records (OpenRow.toRowW (OpenLaw.row PySem.Challenge.rw_pp0050_01))) s) true ⟨heapF pN w.params, ⟨[]⟩, boot_drawn, 994, os⟩ = openGood (qv pN) (lo pN) := by
  rw [te_imp, te_seen]
  intro w os
  kernel_rfl
end Mine
end
section
open PySem PySem.W PyProof.Rows PySem.W.X
set_option maxRecDepth 100000
set_option maxHeartbeats 8000000
namespace Mine
noncomputable abbrev rowT : RowW := OpenRow.toRowW (OpenLaw.row PySem.Challenge.rw_pp0050_01)
theorem h_left : ∀ p : Program, p = pN → LeftO p (qv p) (lo p) (fun s => xlAt (qv p) [] s && recOk (RowW.records rowT) s) (hk p).obs (hk p).val 7964 := by
  intro p e
  subst e
  exact LeftO.of_pieces (M := 12 + (1 + (460 + (2119 + (1343 + 2))))) (H₀ := boot_heap) (H₁ := heapF pN) (m₀ := 11) (ann := some (.ref 6)) h_open h_size h_run (by decide) (fun w => funext fun os => by rw [h_look1 w os, h_look2 w os, h_look3 w os])
end Mine
end
section
open PySem PySem.W PyProof.Rows PySem.W.X
set_option maxRecDepth 100000
set_option maxHeartbeats 8000000

namespace Mine
theorem h_said : OpenLaw.wellSaid PySem.Challenge.rw_pp0050_01 = true := by
  rw [show OpenLaw.wellSaid = PySem.W.Fast.tw9446332074065402090 from PySem.W.Fast.te9446332074065402090]
  kernel_rfl
theorem h_head {d : DefRec} {kwd : List (Str × Expr)} (hdef : defOf (qv pg) (OpenLaw.row PySem.Challenge.rw_pp0050_01).name = some (d, kwd)) (hp : (OpenLaw.row PySem.Challenge.rw_pp0050_01).prog.theDef (OpenLaw.row PySem.Challenge.rw_pp0050_01).name = some (d.params, d.body, d.scope)) (hkw : kwWritten? d.params.kwonlyargs d.params.kw_defaults = some kwd)
    (hc : WalkO (qv pg) (lo pg) (XL (qv pg) []) (hk pg).says rowT d kwd fun f vs => PySem.call f vs) : PySem.Challenge.rw_pp0050_01.Holds := by
  w_on
  refine holds_law h_said fun said => ?_
  refine holds_open (q := qv pg) (loose := lo pg) (Xt := fun s => xlAt (qv pg) [] s && recOk (RowW.records rowT) s) (XP := XL (qv pg) []) (Yf := Hook.obs (hk pg)) (Ya := Hook.val (hk pg)) (YP := Hook.says (hk pg)) (N := 7964) ?hl (Hook.of (hk pg)) (Hook.keeps (hk pg)) (fun s e => xl_of s (Bool.and_eq_true_iff.mp e).1) XL.keeps hdef hp hkw (fun s e => recFacts_of (Bool.and_eq_true_iff.mp e).2) (by rfl) (by first | assumption | decide +kernel) (by decide +kernel) ⟨rfl, rfl, rfl, rfl, rfl, by decide +kernel⟩ ?hw hc
  case hl => exact h_left _ pE
  case hw => w_witness2
end Mine
end
section
open PySem PySem.W PyProof.Rows PySem.Calls PySem.Spec
namespace Mine
open PyProof.Rows.LCg (NsObj)

structure Glo where
  prog : Program
  w : World
  K : Frag
  p : Program
  loose : List Str
  mean : ExcName → Option Value
  mg : Str → Option Value
  mb : Str → Option Value
  H0 : Heap
  X : K.In H0
  T : Top p loose mean mg mb H0

noncomputable abbrev Led := List (Addr × Obj)

inductive Slot where
  | d (x : PyData)
  | own (a : Addr)
  | urn (a : Addr)
  | code (rows : List PyData)
  | raw (v : Value)
  | slc (lo hi st : Option Int)

inductive Cell where
  | lst (xs : List PyData)
  | lsw (xs : List PyData)
  | urn (ns : List Int) (t : Int)
  | raw (o : Obj)

noncomputable def listObj (vs : List Value) (n : Nat) : Obj := { cls := .type "list", data := .seq vs.toArray n }
noncomputable def tupObj (vs : List Value) : Obj := { cls := .type "tuple", data := .seq vs.toArray }

noncomputable def Kn (H0 : Heap) (fz : Led) (a : Addr) (o : Obj) : Prop := H0.get? a = some o ∨ (a, o) ∈ fz

mutual
/-- the value bears the data, all its objects known: of the ground or frozen -/
inductive RV (H0 : Heap) (fz : Led) : Value → PyData → Prop
  | none : RV H0 fz .none .none
  | bool (b) : RV H0 fz (.bool b) (.bool b)
  | int (i t) : RV H0 fz (.int i t) (.int i)
  | str (x t) : RV H0 fz (.str x t) (.str x)
  | list {a o vs n xs} : Kn H0 fz a o → o.cls = .type "list" → o.data = .seq vs n → RVs H0 fz vs.toList xs → RV H0 fz (.ref a) (.list xs)
  | tuple {a o vs n xs} : Kn H0 fz a o → o.cls = .type "tuple" → o.data = .seq vs n → RVs H0 fz vs.toList xs → RV H0 fz (.ref a) (.tuple xs)
inductive RVs (H0 : Heap) (fz : Led) : List Value → List PyData → Prop
  | nil : RVs H0 fz [] []
  | cons {v vs d ds} : RV H0 fz v d → RVs H0 fz vs ds → RVs H0 fz (v :: vs) (d :: ds)
end

theorem Kn.more {H0 : Heap} {fz fz' : Led} {a : Addr} {o : Obj} (hs : ∀ p ∈ fz, p ∈ fz') : Kn H0 fz a o → Kn H0 fz' a o
  | .inl h => .inl h
  | .inr h => .inr (hs _ h)
theorem Kn.at {H0 h : Heap} {fz : Led} {a : Addr} {o : Obj} (hk : ∀ b o, H0.get? b = some o → h.get? b = some o) (hn : ∀ p ∈ fz, h.get? p.1 = some p.2) : Kn H0 fz a o → h.get? a = some o
  | .inl e => hk _ _ e
  | .inr e => hn _ e

mutual
theorem RV.more {H0 : Heap} {fz fz' : Led} (hs : ∀ p ∈ fz, p ∈ fz') : ∀ {v : Value} {d : PyData}, RV H0 fz v d → RV H0 fz' v d
  | _, _, .none => .none
  | _, _, .bool b => .bool b
  | _, _, .int i t => .int i t
  | _, _, .str x t => .str x t
  | _, _, .list k c e r => .list (k.more hs) c e (RVs.more hs r)
  | _, _, .tuple k c e r => .tuple (k.more hs) c e (RVs.more hs r)
theorem RVs.more {H0 : Heap} {fz fz' : Led} (hs : ∀ p ∈ fz, p ∈ fz') : ∀ {vs : List Value} {ds : List PyData}, RVs H0 fz vs ds → RVs H0 fz' vs ds
  | _, _, .nil => .nil
  | _, _, .cons r rs => .cons (RV.more hs r) (RVs.more hs rs)
end
mutual
theorem RV.reads {H0 h : Heap} {fz : Led} (hk : ∀ b o, H0.get? b = some o → h.get? b = some o) (hn : ∀ p ∈ fz, h.get? p.1 = some p.2) : ∀ {v : Value} {d : PyData}, RV H0 fz v d → ∃ as, Reads h v d as
  | _, _, .none => ⟨_, .none⟩
  | _, _, .bool b => ⟨_, .bool b⟩
  | _, _, .int i t => ⟨_, .int i t⟩
  | _, _, .str x t => ⟨_, .str x t⟩
  | _, _, .list k c e r => let ⟨_, ra⟩ := RVs.reads hk hn r; ⟨_, .list (k.at hk hn) c e ra⟩
  | _, _, .tuple k c e r => let ⟨_, ra⟩ := RVs.reads hk hn r; ⟨_, .tuple (k.at hk hn) c e ra⟩
theorem RVs.reads {H0 h : Heap} {fz : Led} (hk : ∀ b o, H0.get? b = some o → h.get? b = some o) (hn : ∀ p ∈ fz, h.get? p.1 = some p.2) : ∀ {vs : List Value} {ds : List PyData}, RVs H0 fz vs ds → ∃ as, ReadsAll h vs ds as
  | _, _, .nil => ⟨_, .nil⟩
  | _, _, .cons r rs => let ⟨_, ra⟩ := RV.reads hk hn r; let ⟨_, rb⟩ := RVs.reads hk hn rs; ⟨_, .cons ra rb⟩
end

theorem RVs.length {H0 : Heap} {fz : Led} : ∀ {vs : List Value} {ds : List PyData}, RVs H0 fz vs ds → vs.length = ds.length
  | _, _, .nil => rfl
  | _, _, .cons _ rs => by simp [RVs.length rs]
theorem RVs.get {H0 : Heap} {fz : Led} : ∀ {vs : List Value} {ds : List PyData} {i : Nat} {d : PyData}, RVs H0 fz vs ds → ds[i]? = some d → ∃ v, vs[i]? = some v ∧ RV H0 fz v d
  | _, _, _, _, .nil, h => by simp at h
  | _, _, 0, _, .cons r _, h => by
    simp only [List.getElem?_cons_zero, Option.some.injEq] at h
    subst h; exact ⟨_, rfl, r⟩
  | _, _, i + 1, _, .cons _ rs, h => by
    simp only [List.getElem?_cons_succ] at h ⊢
    exact RVs.get rs h
theorem RVs.getv {H0 : Heap} {fz : Led} : ∀ {vs : List Value} {ds : List PyData} {i : Nat} {v : Value}, RVs H0 fz vs ds → vs[i]? = some v → ∃ d, ds[i]? = some d ∧ RV H0 fz v d
  | _, _, _, _, .nil, h => by simp at h
  | _, _, 0, _, .cons r _, h => by
    simp only [List.getElem?_cons_zero, Option.some.injEq] at h
    subst h; exact ⟨_, rfl, r⟩
  | _, _, i + 1, _, .cons _ rs, h => by
    simp only [List.getElem?_cons_succ] at h ⊢
    exact RVs.getv rs h
theorem RVs.append {H0 : Heap} {fz : Led} : ∀ {vs ws : List Value} {ds es : List PyData}, RVs H0 fz vs ds → RVs H0 fz ws es → RVs H0 fz (vs ++ ws) (ds ++ es)
  | _, _, _, _, .nil, h => h
  | _, _, _, _, .cons r rs, h => .cons r (RVs.append rs h)
theorem RVs.take {H0 : Heap} {fz : Led} : ∀ {vs : List Value} {ds : List PyData} (n : Nat), RVs H0 fz vs ds → RVs H0 fz (vs.take n) (ds.take n)
  | _, _, 0, _ => by simp only [List.take_zero]; exact .nil
  | _, _, _ + 1, .nil => .nil
  | _, _, n + 1, .cons r rs => .cons r (RVs.take n rs)
theorem RVs.drop {H0 : Heap} {fz : Led} : ∀ {vs : List Value} {ds : List PyData} (n : Nat), RVs H0 fz vs ds → RVs H0 fz (vs.drop n) (ds.drop n)
  | _, _, 0, h => h
  | _, _, _ + 1, .nil => .nil
  | _, _, n + 1, .cons _ rs => RVs.drop n rs
theorem RVs.reverse {H0 : Heap} {fz : Led} : ∀ {vs : List Value} {ds : List PyData}, RVs H0 fz vs ds → RVs H0 fz vs.reverse ds.reverse
  | _, _, .nil => .nil
  | _, _, .cons r rs => by rw [List.reverse_cons, List.reverse_cons]; exact (RVs.reverse rs).append (.cons r .nil)
theorem RVs.set {H0 : Heap} {fz : Led} {v : Value} {d : PyData} (q : RV H0 fz v d) : ∀ {vs : List Value} {ds : List PyData} (n : Nat), RVs H0 fz vs ds → RVs H0 fz (vs.set n v) (ds.set n d)
  | _, _, _, .nil => .nil
  | _, _, 0, .cons _ rs => .cons q rs
  | _, _, n + 1, .cons r rs => .cons r (RVs.set q n rs)

noncomputable def CellObj (G : Glo) (fz : Led) (o : Obj) : Cell → Prop
  | .lst xs => ∃ vs n, o = listObj vs n ∧ RVs G.H0 fz vs xs
  | .lsw xs => o.cls = .type "list" ∧ ∃ vs n, o.data = .seq (List.toArray vs) n ∧ RVs G.H0 fz vs xs
  | .urn ns t => ∃ v k, o.IsDictOf (strKind G.prog G.w) [(Str.ofString "script", v), (Str.ofString "turn", .int t k)] ∧ RV G.H0 fz v (.list (ns.map .int))
  | .raw o' => o = o'

noncomputable def Owns (G : Glo) (fz : Led) : List (Addr × Cell) → Led → Prop
  | [], [] => True
  | (a, c) :: r, (a', o) :: r' => a = a' ∧ CellObj G fz o c ∧ Owns G fz r r'
  | _, _ => False

noncomputable def VarAt (env : Env) (L : Addr) (m : Str → Option Value) (oc : List (Addr × Cell)) (x : Str) (v : Value) : Prop :=
  (env.kindOf x = some .local ∧ env.locals = L ∧ m x = some v) ∨
  (env.kindOf x = some .local ∧ ∃ oC m₂, (env.locals, Cell.raw oC) ∈ oc ∧ NsObj oC m₂ ∧ m₂ x = some v) ∨
  ((env.kindOf x = some .cell ∨ env.kindOf x = some .free) ∧ ∃ a o, env.cells.lookup x = some a ∧ (a, Cell.raw o) ∈ oc ∧ o.data = .cell (some v))

/-- an object of Code -/
noncomputable def CodeAt (G : Glo) (fz : Led) (v : Value) (rows : List PyData) : Prop :=
  ∃ x d ox es n vr vc vo, v = .ref x ∧ (x, ox) ∈ fz ∧ ox.cls = .ref 158 ∧ notCls ox = true ∧ ox.dict = some d ∧ (d, dictOf es n) ∈ fz ∧ (getL (Str.ofString "rows") es = some (some (.ref vr)) ∧ RV G.H0 fz (.ref vr) (.list rows)) ∧ (getL (Str.ofString "codes") es = some (some (.ref vc)) ∧ RV G.H0 fz (.ref vc) (.list [])) ∧
    (getL (Str.ofString "operations") es = some (some (.ref vo)) ∧ RV G.H0 fz (.ref vo) (.list [])) ∧ getL (Str.ofString "barrier") es = some (some .none)

noncomputable def SlotRel (G : Glo) (fz : Led) (v : Value) : Slot → Prop
  | .d x => RV G.H0 fz v x
  | .own a => v = .ref a
  | .urn a => v = .ref a
  | .code rows => CodeAt G fz v rows
  | .raw v' => v = v'
  | .slc lo hi st => ∃ a vl vu vk, v = .ref a ∧ (a, ({ cls := .type "slice", data := .fields #[vl, vu, vk] } : Obj)) ∈ fz ∧ IsPart vl lo ∧ IsPart vu hi ∧ IsPart vk st

structure Cx where
  A₀ : Around
  outer : List Env
  h₀ : Heap
  L : Addr
  fenv : Env      -- the frame's own
  env : Env       -- where names are looked up
  fz0 : Led
  fml : List (Str × Slot) := []   -- names of the frame that are kept in mind while env is another

noncomputable def Cx.A (c : Cx) : Around := c.A₀.deeper c.fenv

structure Cx.Ok (G : Glo) (c : Cx) (lev : Nat) : Prop where
  below : Below c.A₀ G.H0 c.outer c.h₀
  fkind : c.fenv.scope.kind = .function
  kind : c.env.scope.kind = .function
  frame : c.fenv.frame = some c.L
  globals : c.env.globals = mainGlobals
  builtins : c.env.builtins = builtinsNs
  hand : c.A₀.handled = none
  dep : c.A₀.depth + lev ≤ 400
  units : c.A₀.units + 20 * lev ≤ 2000

theorem Cx.Ok.sub {G : Glo} {c : Cx} {lev : Nat} (o : c.Ok G lev) : ∀ b ob, G.H0.get? b = some ob → c.h₀.get? b = some ob := o.below.stays

structure St0 (G : Glo) (c : Cx) (oc : List (Addr × Cell)) (ml : List (Str × Slot)) (tm : List (Value × Slot)) (h : Heap) (m : Str → Option Value) (own fz : Led) : Prop where
  F : Fr c.h₀ c.L h m
  N : News c.h₀ c.L h (own ++ fz)
  O : Owns G fz oc own
  nd : (own.map (·.1)).Nodup
  ap : ∀ p ∈ own, ∀ q ∈ fz, p.1 ≠ q.1
  sub : ∀ x ∈ c.fz0, x ∈ fz
  V : ∀ el ∈ [(c.env, ml), (c.fenv, c.fml)], ∀ x ∈ el.2, ∃ v, VarAt el.1 c.L m oc x.1 v ∧ SlotRel G fz v x.2
  tmp : ∀ x ∈ tm, SlotRel G fz x.1 x.2

noncomputable def St (G : Glo) (c : Cx) (oc : List (Addr × Cell)) (ml : List (Str × Slot)) (tm : List (Value × Slot)) (h : Heap) : Prop :=
  ∃ m own fz, St0 G c oc ml tm h m own fz

/-- from a state on: the expression gives a value of the slot -/
noncomputable def Ev (G : Glo) (c : Cx) (oc : List (Addr × Cell)) (ml : List (Str × Slot)) (e : Expr) (sl : Slot) (oc' : List (Addr × Cell)) : Prop :=
  ∀ (tm : List (Value × Slot)) (s : Shared) (Q : Value → Shared → Prop) (E : Value → Shared → Prop), St G c oc ml tm s.heap →
    (∀ v h' tk', St G c oc' ml ((v, sl) :: tm) h' → Q v { s with heap := h', toks := tk' }) →
    wpAny (model G.prog G.w) c.A (eval e c.env) Q E s

section
variable {G : Glo} {c : Cx} {oc oc' : List (Addr × Cell)} {ml : List (Str × Slot)} {tm : List (Value × Slot)} {h h' : Heap} {m : Str → Option Value} {own fz : Led}

theorem SlotRel.more {fz' : Led} {v : Value} {sl : Slot} (hs : ∀ p ∈ fz, p ∈ fz') (r : SlotRel G fz v sl) : SlotRel G fz' v sl := by
  cases sl with
  | d x => exact RV.more hs r
  | own a => exact r
  | urn a => exact r
  | code rows =>
    obtain ⟨x, d, ox, es, n, vr, vc, vo, e, a1, a2, a3, a4, a5, ⟨b1, b2⟩, ⟨b3, b4⟩, ⟨b5, b6⟩, b7⟩ := r
    exact ⟨x, d, ox, es, n, vr, vc, vo, e, hs _ a1, a2, a3, a4, hs _ a5, ⟨b1, b2.more hs⟩, ⟨b3, b4.more hs⟩, ⟨b5, b6.more hs⟩, b7⟩
  | raw v' => exact r
  | slc lo hi st => obtain ⟨a, vl, vu, vk, e, hm, r⟩ := r; exact ⟨a, vl, vu, vk, e, hs _ hm, r⟩

theorem CellObj.more {fz' : Led} {o : Obj} {cl : Cell} (hs : ∀ p ∈ fz, p ∈ fz') (r : CellObj G fz o cl) : CellObj G fz' o cl := by
  cases cl with
  | lst xs => obtain ⟨vs, n, e, r⟩ := r; exact ⟨vs, n, e, RVs.more hs r⟩
  | lsw xs => obtain ⟨hc, vs, n, e, r⟩ := r; exact ⟨hc, vs, n, e, RVs.more hs r⟩
  | urn ns t => obtain ⟨v, k, e, r⟩ := r; exact ⟨v, k, e, RV.more hs r⟩
  | raw o' => exact r

theorem Owns.more {fz' : Led} (hs : ∀ p ∈ fz, p ∈ fz') : ∀ {oc : List (Addr × Cell)} {own : Led}, Owns G fz oc own → Owns G fz' oc own
  | [], [], _ => trivial
  | (_, _) :: _, (_, _) :: _, ⟨e, r, rs⟩ => ⟨e, r.more hs, Owns.more hs rs⟩
  | [], _ :: _, h => h.elim
  | _ :: _, [], h => h.elim

theorem VarAt.keep {env : Env} {L : Addr} {oc oc' : List (Addr × Cell)} {x : Str} {v : Value} (hs : ∀ a o, (a, Cell.raw o) ∈ oc → (a, Cell.raw o) ∈ oc') (r : VarAt env L m oc x v) : VarAt env L m oc' x v := by
  rcases r with r | ⟨a, oC, m₂, b, r⟩ | ⟨a, b, o, e, f, g⟩
  · exact .inl r
  · exact .inr (.inl ⟨a, oC, m₂, hs _ _ b, r⟩)
  · exact .inr (.inr ⟨a, b, o, e, hs _ _ f, g⟩)

theorem owns_mem : ∀ {oc : List (Addr × Cell)} {own : Led} {a : Addr} {cl : Cell}, Owns G fz oc own → (a, cl) ∈ oc → ∃ o, (a, o) ∈ own ∧ CellObj G fz o cl
  | (a', c') :: r, (b, o) :: r', a, cl, ⟨e, q, rs⟩, hm => by
    rcases List.mem_cons.mp hm with hm | hm
    · cases hm; subst e; exact ⟨o, .head _, q⟩
    · obtain ⟨o', h1, h2⟩ := owns_mem rs hm
      exact ⟨o', .tail _ h1, h2⟩
  | [], [], _, _, _, hm => nomatch hm
  | [], _ :: _, _, _, h, _ => h.elim
  | _ :: _, [], _, _, h, _ => h.elim

theorem St0.V1 (S : St0 G c oc ml tm h m own fz) : ∀ x ∈ ml, ∃ v, VarAt c.env c.L m oc x.1 v ∧ SlotRel G fz v x.2 := S.V (c.env, ml) (.head _)

theorem St0.tok (S : St0 G c oc ml tm h m own fz) {v : Value} {sl : Slot} (r : SlotRel G fz v sl) : St0 G c oc ml ((v, sl) :: tm) h m own fz :=
  ⟨S.F, S.N, S.O, S.nd, S.ap, S.sub, S.V, fun x hx => by
    rcases List.mem_cons.mp hx with rfl | hx
    · exact r
    · exact S.tmp x hx⟩

/-- the heap grew; one more object is known -/
theorem St0.push (S : St0 G c oc ml tm h m own fz) {a : Addr} {o : Obj} (F' : Fr c.h₀ c.L h' m) (N' : News c.h₀ c.L h' ((a, o) :: (own ++ fz))) (hn : h.get? a = none) : St0 G c oc ml tm h' m own ((a, o) :: fz) := by
  have hs : ∀ p ∈ fz, p ∈ (a, o) :: fz := fun p hp => .tail _ hp
  refine ⟨F', ?_, S.O.more hs, S.nd, ?_, fun x hx => .tail _ (S.sub x hx), fun el hel x hx => ?_, fun x hx => (S.tmp x hx).more hs⟩
  · intro p hp
    refine N' p ?_
    rcases List.mem_append.mp hp with q | q
    · exact .tail _ (List.mem_append_left _ q)
    · rcases List.mem_cons.mp q with rfl | q
      · exact .head _
      · exact .tail _ (List.mem_append_right _ q)
  · intro p hp q hq
    rcases List.mem_cons.mp hq with rfl | hq
    · intro e
      have := (S.N p (List.mem_append_left _ hp)).1
      rw [e] at this
      have h2 : h.get? a = some p.2 := this
      rw [hn] at h2; cases h2
    · exact S.ap p hp q hq
  · obtain ⟨v, a1, a2⟩ := S.V el hel x hx
    exact ⟨v, a1, a2.more hs⟩

/-- the heap grew and nothing more is known -/
theorem St0.grow (S : St0 G c oc ml tm h m own fz) (hk : ∀ b o, h.get? b = some o → h'.get? b = some o) : St0 G c oc ml tm h' m own fz :=
  { S with F := S.F.keeps hk, N := S.N.grown hk }

theorem size_none (h : Heap) : h.get? h.objs.size = none := by
  cases q : h.get? h.objs.size with
  | none => rfl
  | some o => exact absurd (Heap.lt_size q) (Nat.lt_irrefl _)

theorem St0.up {lev : Nat} (S : St0 G c oc ml tm h m own fz) (ok : c.Ok G lev) : (∀ b o, G.H0.get? b = some o → h.get? b = some o) ∧ ∀ p ∈ fz, h.get? p.1 = some p.2 :=
  ⟨fun b o e => S.F.keep b o (ok.sub b o e), fun p hp => (S.N p (List.mem_append_right _ hp)).1⟩
theorem St0.reads {lev : Nat} (S : St0 G c oc ml tm h m own fz) (ok : c.Ok G lev) {v : Value} {d : PyData} (r : RV G.H0 fz v d) : ∃ as, Reads h v d as := r.reads (S.up ok).1 (S.up ok).2

theorem ev_name {x : Str} {pos : Pos} {sl : Slot} {lev : Nat} (ok : c.Ok G lev) (hm : (x, sl) ∈ ml) (hd : (x == ("__debug__" : Str)) = false := by decide) (hc : (x == ("__classdict__" : Str)) = false := by decide) : Ev G c oc ml (.Name x pos) sl oc := by
  rintro tm s Q E ⟨m, own, fz, S⟩ k
  obtain ⟨v, hv, r⟩ := S.V1 _ hm
  have fin : Q v s := k v s.heap s.toks ⟨m, own, fz, S.tok r⟩
  rcases hv with ⟨a, b, e⟩ | ⟨a, oC, m₂, b, e, f⟩ | ⟨a, b, o, e, f, g⟩
  · exact wpAny_Name (wpAny_loadName_local ok.kind a (b ▸ S.F.ns) e fin) hd
  · obtain ⟨o', ho, hr⟩ := owns_mem S.O b
    obtain rfl : o' = oC := hr
    exact wpAny_Name (wpAny_loadName_local ok.kind a (e.ns (S.N _ (List.mem_append_left _ ho)).1) f fin) hd
  · obtain ⟨o', ho, hr⟩ := owns_mem S.O f
    obtain rfl : o' = o := hr
    rcases a with a | a
    · exact wpAny_Name (wpAny_loadName_cell ok.kind a e ⟨_, (S.N _ (List.mem_append_left _ ho)).1, g⟩ fin) hd
    · exact wpAny_Name (wpAny_loadName_free ok.kind a e ⟨_, (S.N _ (List.mem_append_left _ ho)).1, g⟩ fin hc) hd

theorem ev_global {x : Str} {pos : Pos} {v : Value} {lev : Nat} (ok : c.Ok G lev) (e : nsIn G.K mainGlobals x = some (some v)) (hx : c.env.kindOf x = some .globalImplicit) (hd : (x == ("__debug__" : Str)) = false := by decide) : Ev G c oc ml (.Name x pos) (.raw v) oc := by
  rintro tm s Q E ⟨m, own, fz, S⟩ k
  have fin : Q v s := k v s.heap s.toks ⟨m, own, fz, S.tok rfl⟩
  refine Name_function_global ok.kind hx (loadGlobal_global (mg := G.mg) ?_ (mg_of G.X G.T.g e) fin) hd
  rw [ok.globals]
  exact G.T.g.keeps fun b o e => S.F.keep b o (ok.sub b o e)

theorem ev_builtin {x : Str} {pos : Pos} {v : Value} {lev : Nat} (ok : c.Ok G lev) (e : nsIn G.K mainGlobals x = some none) (hb : bootBuiltins x = some v) (hn : x ≠ "__name__") (hx : c.env.kindOf x = some .globalImplicit) (hd : (x == ("__debug__" : Str)) = false := by decide) : Ev G c oc ml (.Name x pos) (.raw v) oc := by
  rintro tm s Q E ⟨m, own, fz, S⟩ k
  have fin : Q v s := k v s.heap s.toks ⟨m, own, fz, S.tok rfl⟩
  have up : ∀ b o, G.H0.get? b = some o → s.heap.get? b = some o := fun b o e => S.F.keep b o (ok.sub b o e)
  refine Name_function_global ok.kind hx (loadGlobal_builtin (mg := G.mg) (mb := G.mb) ?_ (mg_none_of G.X G.T.g e) ?_ ((G.T.builtins x hn).trans hb) fin) hd
  · rw [ok.globals]; exact G.T.g.keeps up
  · rw [ok.builtins]; exact G.T.b.keeps up

theorem ev_int {i : Int} {k : Nat} {pos : Pos} : Ev G c oc ml (.Constant (.int i) k pos) (.d (.int i)) oc := by
  rintro tm s Q E ⟨m, own, fz, S⟩ kk
  exact wpAny_Constant_int (kk _ _ _ ⟨m, own, fz, S.tok (RV.int _ _)⟩)
theorem ev_str {x : Str} {k : Nat} {pos : Pos} : Ev G c oc ml (.Constant (.str x) k pos) (.d (.str x)) oc := by
  rintro tm s Q E ⟨m, own, fz, S⟩ kk
  exact wpAny_Constant_str (kk _ _ _ ⟨m, own, fz, S.tok (RV.str _ _)⟩)
theorem ev_none {k : Nat} {pos : Pos} : Ev G c oc ml (.Constant .none k pos) (.d .none) oc := by
  rintro tm s Q E ⟨m, own, fz, S⟩ kk
  exact wpAny_Constant_none (kk _ _ _ ⟨m, own, fz, S.tok RV.none⟩)
theorem ev_bool {b : Bool} {k : Nat} {pos : Pos} : Ev G c oc ml (.Constant (.bool b) k pos) (.d (.bool b)) oc := by
  rintro tm s Q E ⟨m, own, fz, S⟩ kk
  exact wpAny_Constant_bool (kk _ _ _ ⟨m, own, fz, S.tok (RV.bool _)⟩)
end
end Mine
end
section
open PySem PySem.W PyProof.Rows PySem.Calls PySem.Spec
namespace Mine
section
variable {G : Glo} {c : Cx} {oc oc1 oc2 oc3 oc' : List (Addr × Cell)} {ml : List (Str × Slot)} {tm : List (Value × Slot)} {h h' : Heap} {m : Str → Option Value} {own fz : Led} {lev : Nat}

theorem St0.tms {tm' : List (Value × Slot)} (S : St0 G c oc ml tm h m own fz) (hs : ∀ x ∈ tm', x ∈ tm) : St0 G c oc ml tm' h m own fz :=
  ⟨S.F, S.N, S.O, S.nd, S.ap, S.sub, S.V, fun x hx => S.tmp x (hs x hx)⟩
theorem St0.put (S : St0 G c oc ml tm h m own fz) {tm' : List (Value × Slot)} {v : Value} {sl : Slot} (hs : ∀ x ∈ tm', x ∈ tm) (r : SlotRel G fz v sl) : St0 G c oc ml ((v, sl) :: tm') h m own fz := (S.tms hs).tok r
theorem St0.mls {ml' : List (Str × Slot)} (S : St0 G c oc ml tm h m own fz) (hs : ∀ x ∈ ml', x ∈ ml) : St0 G c oc ml' tm h m own fz :=
  ⟨S.F, S.N, S.O, S.nd, S.ap, S.sub, fun el hel x hx => by
    rcases List.mem_cons.mp hel with rfl | hel
    · exact S.V1 x (hs x hx)
    · exact S.V el (.tail _ hel) x hx, S.tmp⟩
theorem St.mls {ml' : List (Str × Slot)} (S : St G c oc ml tm h) (hs : ∀ x ∈ ml', x ∈ ml) : St G c oc ml' tm h := let ⟨m, own, fz, S⟩ := S; ⟨m, own, fz, S.mls hs⟩
theorem St.tms {tm' : List (Value × Slot)} (S : St G c oc ml tm h) (hs : ∀ x ∈ tm', x ∈ tm) : St G c oc ml tm' h := let ⟨m, own, fz, S⟩ := S; ⟨m, own, fz, S.tms hs⟩
theorem sub1 {α : Type} {a : α} {l : List α} : ∀ x ∈ l, x ∈ a :: l := fun _ h => .tail _ h
theorem sub2 {α : Type} {a b : α} {l : List α} : ∀ x ∈ l, x ∈ a :: b :: l := fun _ h => .tail _ (.tail _ h)

theorem rv_int {H0 : Heap} {v : Value} {i : Int} (r : RV H0 fz v (.int i)) : ∃ t, v = .int i t := by cases r with | int i t => exact ⟨t, rfl⟩
theorem rv_str {H0 : Heap} {v : Value} {x : Str} (r : RV H0 fz v (.str x)) : ∃ t, v = .str x t := by cases r with | str i t => exact ⟨t, rfl⟩
theorem rv_bool {H0 : Heap} {v : Value} {b : Bool} (r : RV H0 fz v (.bool b)) : v = .bool b := by cases r; rfl
theorem rv_none {H0 : Heap} {v : Value} (r : RV H0 fz v .none) : v = .none := by cases r; rfl
theorem rv_list {H0 : Heap} {v : Value} {xs : List PyData} (r : RV H0 fz v (.list xs)) : ∃ a o vs n, v = .ref a ∧ Kn H0 fz a o ∧ o.cls = .type "list" ∧ o.data = .seq vs n ∧ RVs H0 fz vs.toList xs := by
  cases r with | list k c e r => exact ⟨_, _, _, _, rfl, k, c, e, r⟩
theorem rv_tuple {H0 : Heap} {v : Value} {xs : List PyData} (r : RV H0 fz v (.tuple xs)) : ∃ a o vs n, v = .ref a ∧ Kn H0 fz a o ∧ o.cls = .type "tuple" ∧ o.data = .seq vs n ∧ RVs H0 fz vs.toList xs := by
  cases r with | tuple k c e r => exact ⟨_, _, _, _, rfl, k, c, e, r⟩

/-- at the state's heap: a list, by its items -/
theorem St0.isList (S : St0 G c oc ml tm h m own fz) (ok : c.Ok G lev) {v : Value} {xs : List PyData} (r : RV G.H0 fz v (.list xs)) : ∃ a vs, v = .ref a ∧ h.IsList a vs.toArray ∧ RVs G.H0 fz vs xs := by
  obtain ⟨a, o, vs, n, e, k, hc, hd, r⟩ := rv_list r
  exact ⟨a, vs.toList, e, ⟨o, k.at (S.up ok).1 (S.up ok).2, hc, n, by rw [hd]⟩, r⟩
theorem St0.isTup (S : St0 G c oc ml tm h m own fz) (ok : c.Ok G lev) {v : Value} {xs : List PyData} (r : RV G.H0 fz v (.tuple xs)) : ∃ a vs, v = .ref a ∧ IsTup h a vs.toArray ∧ RVs G.H0 fz vs xs := by
  obtain ⟨a, o, vs, n, e, k, hc, hd, r⟩ := rv_tuple r
  exact ⟨a, vs.toList, e, ⟨o, k.at (S.up ok).1 (S.up ok).2, hc, n, by rw [hd]⟩, r⟩

noncomputable def Bin (G : Glo) (c : Cx) (oc : List (Addr × Cell)) (ml : List (Str × Slot)) (t : Value → Value → Sem Value) (s1 s2 sl : Slot) (oc' : List (Addr × Cell)) : Prop :=
  ∀ (tm : List (Value × Slot)) (s : Shared) (Q : Value → Shared → Prop) (E : Value → Shared → Prop) (v1 v2 : Value), St G c oc ml ((v2, s2) :: (v1, s1) :: tm) s.heap →
    (∀ v h' tk', St G c oc' ml ((v, sl) :: tm) h' → Q v { s with heap := h', toks := tk' }) → wpAny (model G.prog G.w) c.A (t v1 v2) Q E s

/-- the test comes out so -/
noncomputable def Tr (G : Glo) (c : Cx) (oc : List (Addr × Cell)) (ml : List (Str × Slot)) (e : Expr) (b : Bool) (oc' : List (Addr × Cell)) : Prop :=
  ∀ (tm : List (Value × Slot)) (s : Shared) (Q : Bool → Shared → Prop) (E : Value → Shared → Prop), St G c oc ml tm s.heap →
    (∀ h' tk', St G c oc' ml tm h' → Q b { s with heap := h', toks := tk' }) → wpAny (model G.prog G.w) c.A (isTrue e c.env (eval e c.env)) Q E s

theorem ev_bin {l r : Expr} {op : Operator} {pos : Pos} {s1 s2 sl : Slot} (h1 : Ev G c oc ml l s1 oc1) (h2 : Ev G c oc1 ml r s2 oc2) (f : Bin G c oc2 ml (binaryOp op) s1 s2 sl oc3) : Ev G c oc ml (.BinOp l op r pos) sl oc3 := by
  intro tm s Q E S k
  refine wpAny_BinOp (h1 tm s _ E S fun v1 g1 t1 S1 => ?_)
  refine h2 _ _ _ E S1 fun v2 g2 t2 S2 => ?_
  exact f tm _ Q E v1 v2 S2 k
theorem ev_cmp {l r : Expr} {op : CmpOp} {pos : Pos} {s1 s2 sl : Slot} (h1 : Ev G c oc ml l s1 oc1) (h2 : Ev G c oc1 ml r s2 oc2) (f : Bin G c oc2 ml (compareOp op) s1 s2 sl oc3) (hm : behindInMarks op r = false := by rfl) : Ev G c oc ml (.Compare l [op] [r] pos) sl oc3 := by
  intro tm s Q E S k
  refine wpAny_Compare1 (h1 tm s _ E S fun v1 g1 t1 S1 => ?_) hm
  refine h2 _ _ _ E S1 fun v2 g2 t2 S2 => ?_
  exact f tm _ Q E v1 v2 S2 k
theorem tr_cmp {l r : Expr} {op : CmpOp} {pos : Pos} {s1 s2 : Slot} {b : Bool} (h1 : Ev G c oc ml l s1 oc1) (h2 : Ev G c oc1 ml r s2 oc2) (f : Bin G c oc2 ml (compareOp op) s1 s2 (.d (.bool b)) oc3) (hm : behindInMarks op r = false := by rfl) : Tr G c oc ml (.Compare l [op] [r] pos) b oc3 := by
  intro tm s Q E S k
  refine wpAny_isTrue_Compare1 (h1 tm s _ E S fun v1 g1 t1 S1 => ?_) hm
  refine h2 _ _ _ E S1 fun v2 g2 t2 S2 => ?_
  refine f tm _ _ E v1 v2 S2 fun v g t S3 => ?_
  obtain ⟨m, own, fz, S3⟩ := S3
  have := rv_bool (S3.tmp _ (.head _))
  subst this
  exact wpAny_truthy_bool (k _ _ ⟨m, own, fz, S3.tms sub1⟩)

theorem bin_int {op : Operator} {a b r : Int} (f : ∀ {s : Shared} {E : Value → Shared → Prop} {Q : Value → Shared → Prop} (t u : Tok), Q (.int r s.toks) { s with toks := s.toks + 1 } → wpAny (model G.prog G.w) c.A (binaryOp op (.int a t) (.int b u)) Q E s) :
    Bin G c oc ml (binaryOp op) (.d (.int a)) (.d (.int b)) (.d (.int r)) oc := by
  rintro tm s Q E v1 v2 ⟨m, own, fz, S⟩ k
  obtain ⟨u, rfl⟩ := rv_int (S.tmp _ (.head _))
  obtain ⟨t, rfl⟩ := rv_int (S.tmp _ (.tail _ (.head _)))
  exact f t u (k _ s.heap (s.toks + 1) ⟨m, own, fz, S.put sub2 (RV.int _ _)⟩)
theorem b_add {a b : Int} : Bin G c oc ml (binaryOp .Add) (.d (.int a)) (.d (.int b)) (.d (.int (a + b))) oc := bin_int fun _ _ h => PyProof.Rows.add_int h
theorem b_sub {a b : Int} : Bin G c oc ml (binaryOp .Sub) (.d (.int a)) (.d (.int b)) (.d (.int (a - b))) oc := bin_int fun _ _ h => PyProof.Rows.sub_int h
theorem b_mod {a b : Int} (hb : b ≠ 0) : Bin G c oc ml (binaryOp .Mod) (.d (.int a)) (.d (.int b)) (.d (.int (a.fmod b))) oc := bin_int fun _ _ h => PyProof.Rows.mod_int hb h

theorem cmp_int {op : CmpOp} {a b : Int} {r : Bool} (f : ∀ {s : Shared} {E : Value → Shared → Prop} {Q : Value → Shared → Prop} (t u : Tok), Q (.bool r) s → wpAny (model G.prog G.w) c.A (compareOp op (.int a t) (.int b u)) Q E s) :
    Bin G c oc ml (compareOp op) (.d (.int a)) (.d (.int b)) (.d (.bool r)) oc := by
  rintro tm s Q E v1 v2 ⟨m, own, fz, S⟩ k
  obtain ⟨u, rfl⟩ := rv_int (S.tmp _ (.head _))
  obtain ⟨t, rfl⟩ := rv_int (S.tmp _ (.tail _ (.head _)))
  exact f t u (k _ s.heap s.toks ⟨m, own, fz, S.put sub2 (RV.bool _)⟩)
theorem c_lt {a b : Int} : Bin G c oc ml (compareOp .Lt) (.d (.int a)) (.d (.int b)) (.d (.bool (decide (a < b)))) oc := cmp_int fun _ _ h => PyProof.Rows.lt_int h
theorem c_le {a b : Int} : Bin G c oc ml (compareOp .LtE) (.d (.int a)) (.d (.int b)) (.d (.bool (decide (a ≤ b)))) oc := cmp_int fun _ _ h => PyProof.Rows.le_int h
theorem c_gt {a b : Int} : Bin G c oc ml (compareOp .Gt) (.d (.int a)) (.d (.int b)) (.d (.bool (decide (b < a)))) oc := cmp_int fun _ _ h => PyProof.Rows.gt_int h

/-- equality of any two data -/
theorem c_eq {x y : PyData} (ok : c.Ok G lev) (hx : x.canLay0 = true) (hy : y.canLay0 = true) (hd : min x.depth y.depth ≤ 1000) : Bin G c oc ml (compareOp .Eq) (.d x) (.d y) (.d (.bool (PyData.eqv x y))) oc := by
  rintro tm s Q E v1 v2 ⟨m, own, fz, S⟩ k
  obtain ⟨_, r2⟩ := S.reads ok (S.tmp _ (.head _))
  obtain ⟨_, r1⟩ := S.reads ok (S.tmp _ (.tail _ (.head _)))
  refine cmp_ofEq (SeqAt.eqOverData _ _ _ _ _ _ _ _ _ _ _ _ r1 r2 hx hy ?_ (k _ s.heap s.toks ⟨m, own, fz, S.put sub2 (RV.bool _)⟩))
  show c.A₀.units + 3 + _ < cLine
  have := ok.units; have := cLine_is; omega
theorem c_ne {x y : PyData} (ok : c.Ok G lev) (hx : x.canLay0 = true) (hy : y.canLay0 = true) (hd : min x.depth y.depth ≤ 1000) : Bin G c oc ml (compareOp .NotEq) (.d x) (.d y) (.d (.bool (!PyData.eqv x y))) oc := by
  rintro tm s Q E v1 v2 ⟨m, own, fz, S⟩ k
  obtain ⟨_, r2⟩ := S.reads ok (S.tmp _ (.head _))
  obtain ⟨_, r1⟩ := S.reads ok (S.tmp _ (.tail _ (.head _)))
  refine cmp_ofNotEq (SeqAt.neOverData _ _ _ _ _ _ _ _ _ _ _ _ r1 r2 hx hy ?_ (k _ s.heap s.toks ⟨m, own, fz, S.put sub2 (RV.bool _)⟩))
  show c.A₀.units + 3 + _ < cLine
  have := ok.units; have := cLine_is; omega
theorem c_in_tup {x : PyData} {ys : List PyData} (ok : c.Ok G lev) (hx : x.canLay0 = true) (hy : PyData.canLayAll0 ys = true) (hd : min (PyData.depthAll ys) x.depth ≤ 1000) : Bin G c oc ml (compareOp .In) (.d x) (.d (.tuple ys)) (.d (.bool (ys.any fun y => PyData.eqv y x))) oc := by
  rintro tm s Q E v1 v2 ⟨m, own, fz, S⟩ k
  obtain ⟨_, r2⟩ := S.reads ok (S.tmp _ (.head _))
  obtain ⟨_, r1⟩ := S.reads ok (S.tmp _ (.tail _ (.head _)))
  refine SeqAt.in_tuple_reads r2 r1 hy hx ?_ (k _ s.heap s.toks ⟨m, own, fz, S.put sub2 (RV.bool _)⟩)
  show c.A₀.units + 3 + 1 + _ < cLine
  have := ok.units; have := cLine_is; omega
theorem c_notin_tup {x : PyData} {ys : List PyData} (ok : c.Ok G lev) (hx : x.canLay0 = true) (hy : PyData.canLayAll0 ys = true) (hd : min (PyData.depthAll ys) x.depth ≤ 1000) : Bin G c oc ml (compareOp .NotIn) (.d x) (.d (.tuple ys)) (.d (.bool (!ys.any fun y => PyData.eqv y x))) oc := by
  rintro tm s Q E v1 v2 ⟨m, own, fz, S⟩ k
  obtain ⟨_, r2⟩ := S.reads ok (S.tmp _ (.head _))
  obtain ⟨_, r1⟩ := S.reads ok (S.tmp _ (.tail _ (.head _)))
  refine SeqAt.notIn_tuple_reads r2 r1 hy hx ?_ (k _ s.heap s.toks ⟨m, own, fz, S.put sub2 (RV.bool _)⟩)
  show c.A₀.units + 3 + 1 + _ < cLine
  have := ok.units; have := cLine_is; omega
theorem c_in_list {x : PyData} {ys : List PyData} (ok : c.Ok G lev) (hx : x.canLay0 = true) (hy : PyData.canLayAll0 ys = true) (hd : min (PyData.depthAll ys) x.depth ≤ 1000) : Bin G c oc ml (compareOp .In) (.d x) (.d (.list ys)) (.d (.bool (ys.any fun y => PyData.eqv y x))) oc := by
  rintro tm s Q E v1 v2 ⟨m, own, fz, S⟩ k
  obtain ⟨_, r2⟩ := S.reads ok (S.tmp _ (.head _))
  obtain ⟨_, r1⟩ := S.reads ok (S.tmp _ (.tail _ (.head _)))
  refine SeqAt.in_list_reads r2 r1 hy hx ?_ (k _ s.heap s.toks ⟨m, own, fz, S.put sub2 (RV.bool _)⟩)
  show c.A₀.units + 3 + 1 + _ < cLine
  have := ok.units; have := cLine_is; omega
/-- in a str -/
theorem c_in_str {x y : Str} : Bin G c oc ml (compareOp .In) (.d (.str y)) (.d (.str x)) (.d (.bool !(Builtin.Str.occurrences x y 0 x.length 1).isEmpty)) oc := by
  rintro tm s Q E v1 v2 ⟨m, own, fz, S⟩ k
  obtain ⟨u, rfl⟩ := rv_str (S.tmp _ (.head _))
  obtain ⟨t, rfl⟩ := rv_str (S.tmp _ (.tail _ (.head _)))
  exact PyProof.Rows.in_str (k _ s.heap s.toks ⟨m, own, fz, S.put sub2 (RV.bool _)⟩)
/-- in a dict of the top -/
theorem c_in_top {x : Str} {a : Addr} {es : Array DictEntry} {n : Nat} {r : Option Value} (ok : c.Ok G lev) (hl : G.K.lookup a = some ⟨.type "dict", none, .dict es n, #[]⟩) (hk : KeysLit G.w.params es.toList) (e : nsIn G.K a x = some r) (lo : (a == sysModules) = false) :
    Bin G c oc ml (compareOp .In) (.d (.str x)) (.raw (.ref a)) (.d (.bool r.isSome)) oc := by
  rintro tm s Q E v1 v2 ⟨m, own, fz, S⟩ k
  obtain rfl : v2 = .ref a := S.tmp _ (.head _)
  obtain ⟨t, rfl⟩ := rv_str (S.tmp _ (.tail _ (.head _)))
  exact topIn_K S.F (G.X.keeps ok.sub) hl hk e lo (k _ s.heap _ ⟨m, own, fz, S.put sub2 (RV.bool _)⟩)
theorem c_notin_top {x : Str} {a : Addr} {es : Array DictEntry} {n : Nat} {r : Option Value} (ok : c.Ok G lev) (hl : G.K.lookup a = some ⟨.type "dict", none, .dict es n, #[]⟩) (hk : KeysLit G.w.params es.toList) (e : nsIn G.K a x = some r) (lo : (a == sysModules) = false) :
    Bin G c oc ml (compareOp .NotIn) (.d (.str x)) (.raw (.ref a)) (.d (.bool !r.isSome)) oc := by
  rintro tm s Q E v1 v2 ⟨m, own, fz, S⟩ k
  obtain rfl : v2 = .ref a := S.tmp _ (.head _)
  obtain ⟨t, rfl⟩ := rv_str (S.tmp _ (.tail _ (.head _)))
  exact wpAny_notIn_of (strKind_is G.prog G.w x t) lo (mapOf_K (G.X.keeps (S.up ok).1) hl hk) (by rw [find_K hl e]; exact k _ s.heap _ ⟨m, own, fz, S.put sub2 (RV.bool _)⟩)
theorem c_isnot_none {x : PyData} : Bin G c oc ml (compareOp .IsNot) (.d x) (.d .none) (.d (.bool (match x with | .none => false | _ => true))) oc := by
  rintro tm s Q E v1 v2 ⟨m, own, fz, S⟩ k
  obtain rfl := rv_none (S.tmp _ (.head _))
  have r := S.tmp _ (.tail _ (.head _))
  cases r <;> exact wpAny_pure (k _ s.heap s.toks ⟨m, own, fz, S.put sub2 (RV.bool _)⟩)
end
end Mine
end
section
open PySem PySem.W PyProof.Rows PySem.Calls PySem.Spec
namespace Mine
section
variable {G : Glo} {c : Cx} {oc oc1 oc2 oc3 oc' : List (Addr × Cell)} {ml : List (Str × Slot)} {tm : List (Value × Slot)} {h h' : Heap} {m : Str → Option Value} {own fz : Led} {lev : Nat}

/-- several expressions, in turn -/
noncomputable def EvL (G : Glo) (c : Cx) (oc : List (Addr × Cell)) (ml : List (Str × Slot)) (es : List Expr) (sls : List Slot) (oc' : List (Addr × Cell)) : Prop :=
  ∀ (pos : Pos) (tm : List (Value × Slot)) (s : Shared) (Q : List Value → Shared → Prop) (E : Value → Shared → Prop), St G c oc ml tm s.heap →
    (∀ vs h' tk', vs.length = sls.length → St G c oc' ml (vs.zip sls ++ tm) h' → Q vs { s with heap := h', toks := tk' }) →
    wpAny (model G.prog G.w) c.A (spliced (backTo pos (starEach es c.env))) Q E s

theorem evl_nil : EvL G c oc ml [] [] oc := by
  intro pos tm s Q E S k
  exact wpAny_pure (k [] s.heap s.toks rfl S)
theorem evl_cons {e : Expr} {es : List Expr} {sl : Slot} {sls : List Slot} (h1 : Ev G c oc ml e sl oc1) (h2 : EvL G c oc1 ml es sls oc2) (hst : starEach (e :: es) c.env = (false, eval e c.env) :: starEach es c.env := by rfl) :
    EvL G c oc ml (e :: es) (sl :: sls) oc2 := by
  intro pos tm s Q E S k
  rw [hst]
  show wpAny _ _ (spliced ((false, eval e c.env) :: backTo pos (starEach es c.env))) Q E s
  refine Calls.spliced_cons (h1 tm s _ E S fun v g1 t1 S1 => ?_)
  refine h2 pos _ _ _ E S1 fun vs g2 t2 hl S2 => ?_
  refine k (v :: vs) g2 t2 (by simp [hl]) (S2.tms fun x hx => ?_)
  rcases List.mem_cons.mp hx with rfl | hx
  · exact List.mem_append_right _ (.head _)
  · rcases List.mem_append.mp hx with hx | hx
    · exact List.mem_append_left _ hx
    · exact List.mem_append_right _ (.tail _ hx)

theorem rvs_of_zip : ∀ {vs : List Value} {ds : List PyData}, vs.length = ds.length → (∀ x ∈ vs.zip (ds.map Slot.d), SlotRel G fz x.1 x.2) → RVs G.H0 fz vs ds
  | [], [], _, _ => .nil
  | v :: vs, d :: ds, hl, h => .cons (h _ (.head _)) (rvs_of_zip (by simpa using hl) fun x hx => h x (.tail _ hx))
  | [], _ :: _, hl, _ => by simp at hl
  | _ :: _, [], hl, _ => by simp at hl

theorem St0.pushT (S : St0 G c oc ml tm h m own fz) {o : Obj} {tm' : List (Value × Slot)} (F' : Fr c.h₀ c.L h' m) (N' : News c.h₀ c.L h' ((h.objs.size, o) :: (own ++ fz))) (hs : ∀ x ∈ tm', x ∈ tm) {v : Value} {sl : Slot} (r : SlotRel G ((h.objs.size, o) :: fz) v sl) :
    St G c oc ml ((v, sl) :: tm') h' := ⟨m, own, _, (S.push F' N' (size_none h)).put hs r⟩

theorem rv_tup_new {H0 : Heap} {a : Addr} {vs : List Value} {ds : List PyData} (r : RVs H0 fz vs ds) : RV H0 ((a, ({ cls := .type "tuple", data := .seq vs.toArray } : Obj)) :: fz) (.ref a) (.tuple ds) :=
  .tuple (.inr (.head _)) rfl rfl (RVs.more (fun _ h => .tail _ h) r)
theorem rv_lst_new {H0 : Heap} {a : Addr} {vs : List Value} {ds : List PyData} (r : RVs H0 fz vs ds) : RV H0 ((a, ({ cls := .type "list", data := .seq vs.toArray } : Obj)) :: fz) (.ref a) (.list ds) :=
  .list (.inr (.head _)) rfl rfl (RVs.more (fun _ h => .tail _ h) r)
theorem sz_ok {n : Nat} (h : n ≤ 10000) : n ≤ sizeLine := by rw [sizeLine_eq]; omega

/-- several expressions that bear data -/
noncomputable def EvLd (G : Glo) (c : Cx) (oc : List (Addr × Cell)) (ml : List (Str × Slot)) (es : List Expr) (ds : List PyData) (oc' : List (Addr × Cell)) : Prop := EvL G c oc ml es (ds.map .d) oc'
theorem evd_nil : EvLd G c oc ml [] [] oc := evl_nil
theorem evd_cons {e : Expr} {es : List Expr} {d : PyData} {ds : List PyData} (h1 : Ev G c oc ml e (.d d) oc1) (h2 : EvLd G c oc1 ml es ds oc2) (hst : starEach (e :: es) c.env = (false, eval e c.env) :: starEach es c.env := by rfl) :
    EvLd G c oc ml (e :: es) (d :: ds) oc2 := evl_cons h1 h2 hst
theorem ev_tuple {es : List Expr} {k : Nat} {pos : Pos} {ds : List PyData} (h1 : EvLd G c oc ml es ds oc1) (hsz : ds.length ≤ 10000 := by first | decide | simp) : Ev G c oc ml (.Tuple es k pos) (.d (.tuple ds)) oc1 := by
  intro tm s Q E S kk
  refine Tuple_ (h1 pos tm s _ E S fun vs g1 t1 hl S1 => ?_)
  obtain ⟨m, own, fz, S1⟩ := S1
  rw [List.length_map] at hl
  refine newTuple_N S1.F S1.N (fun h' F' N' => ?_) (sz_ok (hl ▸ hsz))
  exact kk _ h' t1 (S1.pushT F' N' (fun x hx => List.mem_append_right _ hx) (rv_tup_new (rvs_of_zip (G := G) hl fun x hx => S1.tmp x (List.mem_append_left _ hx))))
theorem ev_list {es : List Expr} {pos : Pos} {ds : List PyData} (h1 : EvLd G c oc ml es ds oc1) (hsz : ds.length ≤ 10000 := by first | decide | simp) : Ev G c oc ml (.List es pos) (.d (.list ds)) oc1 := by
  intro tm s Q E S kk
  refine List_ (h1 pos tm s _ E S fun vs g1 t1 hl S1 => ?_)
  obtain ⟨m, own, fz, S1⟩ := S1
  rw [List.length_map] at hl
  refine newList_N S1.F S1.N (fun h' F' N' => ?_) (sz_ok (hl ▸ hsz))
  exact kk _ h' t1 (S1.pushT F' N' (fun x hx => List.mem_append_right _ hx) (rv_lst_new (rvs_of_zip (G := G) hl fun x hx => S1.tmp x (List.mem_append_left _ hx))))

theorem ev_sub {e i : Expr} {pos : Pos} {s1 s2 sl : Slot} (h1 : Ev G c oc ml e s1 oc1) (h2 : Ev G c oc1 ml i s2 oc2) (f : Bin G c oc2 ml (subscriptTail e i) s1 s2 sl oc3) : Ev G c oc ml (.Subscript e i pos) sl oc3 := by
  intro tm s Q E S k
  refine Subscript_ (h1 tm s _ E S fun v1 g1 t1 S1 => ?_)
  refine h2 _ _ _ E S1 fun v2 g2 t2 S2 => ?_
  exact f tm _ Q E v1 v2 S2 k

/-- a list's items: frozen, or owned -/
noncomputable def Lst (oc : List (Addr × Cell)) (sl : Slot) (xs : List PyData) : Prop := sl = .d (.list xs) ∨ ∃ a, sl = .own a ∧ ((a, Cell.lst xs) ∈ oc ∨ (a, Cell.lsw xs) ∈ oc)
theorem St0.lst (S : St0 G c oc ml tm h m own fz) (ok : c.Ok G lev) {v : Value} {sl : Slot} {xs : List PyData} (hl : Lst oc sl xs) (hm : SlotRel G fz v sl) : ∃ a vs, v = .ref a ∧ h.IsList a vs.toArray ∧ RVs G.H0 fz vs xs := by
  rcases hl with rfl | ⟨a, rfl, hc⟩
  · exact S.isList ok hm
  · rcases hc with hc | hc
    · obtain ⟨o, ho, vs, n, rfl, r⟩ := owns_mem S.O hc
      exact ⟨a, vs, hm, ⟨_, (S.N _ (List.mem_append_left _ ho)).1, rfl, n, rfl⟩, r⟩
    · obtain ⟨o, ho, hcl, vs, n, e, r⟩ := owns_mem S.O hc
      exact ⟨a, vs, hm, ⟨_, (S.N _ (List.mem_append_left _ ho)).1, hcl, n, e⟩, r⟩

theorem s_list {e i : Expr} {s1 : Slot} {xs : List PyData} {k : Int} {x : PyData} (ok : c.Ok G lev) (hl : Lst oc s1 xs) (h0 : 0 ≤ k) (hk : k < 2 ^ 63) (hx : xs[k.toNat]? = some x)
    (hs : ∀ o t, subscripted i false o (.int k t) = operate [o, .int k t] (getItem o (.int k t)) := by intros; with_unfolding_all rfl) : Bin G c oc ml (subscriptTail e i) s1 (.d (.int k)) (.d x) oc := by
  rintro tm s Q E v1 v2 ⟨m, own, fz, S⟩ kk
  obtain ⟨u, rfl⟩ := rv_int (S.tmp _ (.head _))
  obtain ⟨a, vs, rfl, hL, r⟩ := S.lst ok hl (S.tmp _ (.tail _ (.head _)))
  obtain ⟨v, hv, rv⟩ := r.get hx
  exact tail_any hL.typeIs slot_list_getitem.lookup (wpAny_getItem_list hL h0 hk (by simpa using hv) (kk _ s.heap s.toks ⟨m, own, fz, S.put sub2 rv⟩)) (hs _ _)
theorem s_list_neg {e i : Expr} {s1 : Slot} {xs : List PyData} {k : Int} {x : PyData} (ok : c.Ok G lev) (hl : Lst oc s1 xs) (h0 : k < 0) (h1 : -(xs.length : Int) ≤ k) (hk : -(2 ^ 63) ≤ k) (hx : xs[(k + xs.length).toNat]? = some x)
    (hs : ∀ o t, subscripted i false o (.int k t) = operate [o, .int k t] (getItem o (.int k t)) := by intros; with_unfolding_all rfl) : Bin G c oc ml (subscriptTail e i) s1 (.d (.int k)) (.d x) oc := by
  rintro tm s Q E v1 v2 ⟨m, own, fz, S⟩ kk
  obtain ⟨u, rfl⟩ := rv_int (S.tmp _ (.head _))
  obtain ⟨a, vs, rfl, hL, r⟩ := S.lst ok hl (S.tmp _ (.tail _ (.head _)))
  obtain ⟨v, hv, rv⟩ := r.get hx
  have e := r.length
  exact tail_any hL.typeIs slot_list_getitem.lookup (wpAny_getItem_list_neg hL h0 (by simpa [e] using h1) hk (by simpa [e] using hv) (kk _ s.heap s.toks ⟨m, own, fz, S.put sub2 rv⟩)) (hs _ _)
theorem seqIx {k : Int} {n : Nat} (h0 : 0 ≤ k) (h : k.toNat < n) : seqIndex? k n = some k.toNat := by
  unfold seqIndex?
  simp
  omega
theorem s_tup {e i : Expr} {xs : List PyData} {k : Int} {x : PyData} (ok : c.Ok G lev) (h0 : 0 ≤ k) (hk : k < 2 ^ 63) (hx : xs[k.toNat]? = some x)
    (hs : ∀ o t, subscripted i false o (.int k t) = operate [o, .int k t] (getItem o (.int k t)) := by intros; with_unfolding_all rfl) : Bin G c oc ml (subscriptTail e i) (.d (.tuple xs)) (.d (.int k)) (.d x) oc := by
  rintro tm s Q E v1 v2 ⟨m, own, fz, S⟩ kk
  obtain ⟨u, rfl⟩ := rv_int (S.tmp _ (.head _))
  obtain ⟨a, vs, rfl, hL, r⟩ := S.isTup ok (S.tmp _ (.tail _ (.head _)))
  obtain ⟨v, hv, rv⟩ := r.get hx
  have hlt : k.toNat < vs.length := (List.getElem?_eq_some_iff.mp hv).1
  refine item_tupleT hL (by omega) hk (j := k.toNat) ?_ hv (kk _ s.heap s.toks ⟨m, own, fz, S.put sub2 rv⟩) (hs _ _)
  exact seqIx h0 hlt
theorem s_str {e i : Expr} {x : Str} {k : Int} {cp : Nat} (h0 : 0 ≤ k) (hk : k < 2 ^ 63) (hx : x.cps[k.toNat]? = some cp)
    (hs : ∀ o t, subscripted i false o (.int k t) = operate [o, .int k t] (getItem o (.int k t)) := by intros; with_unfolding_all rfl) : Bin G c oc ml (subscriptTail e i) (.d (.str x)) (.d (.int k)) (.d (.str ⟨#[cp]⟩)) oc := by
  rintro tm s Q E v1 v2 ⟨m, own, fz, S⟩ kk
  obtain ⟨u, rfl⟩ := rv_int (S.tmp _ (.head _))
  obtain ⟨t, rfl⟩ := rv_str (S.tmp _ (.tail _ (.head _)))
  have hlt : k.toNat < x.cps.size := (Array.getElem?_eq_some_iff.mp hx).1
  refine tail_any (typeIs_str s x t) PyProof.Rows.slot_str_getitem.lookup (PyProof.Rows.getItem_str ?_ (c := cp) ?_ (kk _ s.heap _ ⟨m, own, fz, S.put sub2 (RV.str _ _)⟩)) (hs _ _)
  · simp only [Bool.or_eq_false_iff, decide_eq_false_iff_not]; omega
  · rw [seqIx (n := x.length) h0 hlt]; exact hx
theorem s_top {e i : Expr} {x : Str} {a : Addr} {es : Array DictEntry} {n : Nat} {v : Value} (ok : c.Ok G lev) (hl : G.K.lookup a = some ⟨.type "dict", none, .dict es n, #[]⟩) (hk : KeysLit G.w.params es.toList) (hx : nsIn G.K a x = some (some v))
    {d : PyData} (rd : RV G.H0 [] v d) (hs : ∀ o t, subscripted i false o (.str x t) = operate [o, .str x t] (getItem o (.str x t)) := by intros; with_unfolding_all rfl) : Bin G c oc ml (subscriptTail e i) (.raw (.ref a)) (.d (.str x)) (.d d) oc := by
  rintro tm s Q E v1 v2 ⟨m, own, fz, S⟩ kk
  obtain ⟨t, rfl⟩ := rv_str (S.tmp _ (.head _))
  obtain rfl : v1 = .ref a := S.tmp _ (.tail _ (.head _))
  exact topItem_K S.F (G.X.keeps ok.sub) hl hk hx (kk _ s.heap _ ⟨m, own, fz, S.put sub2 (RV.more (by intro _ h; cases h) rd)⟩) (hs _ _)
end
end Mine
end
section
open PySem PySem.W PyProof.Rows PySem.Calls PySem.Spec
namespace Mine
section
variable {G : Glo} {c : Cx} {oc oc1 oc2 oc3 oc' : List (Addr × Cell)} {ml : List (Str × Slot)} {tm : List (Value × Slot)} {h h' : Heap} {m : Str → Option Value} {own fz : Led} {lev : Nat}

/-- what a call gives -/
noncomputable def Cal (G : Glo) (c : Cx) (oc : List (Addr × Cell)) (ml : List (Str × Slot)) (f : Value) (sls : List Slot) (sl : Slot) (oc' : List (Addr × Cell)) : Prop :=
  ∀ (tm : List (Value × Slot)) (s : Shared) (Q : Value → Shared → Prop) (E : Value → Shared → Prop) (vs : List Value), vs.length = sls.length → St G c oc ml (vs.zip sls ++ tm) s.heap →
    (∀ v h' tk', St G c oc' ml ((v, sl) :: tm) h' → Q v { s with heap := h', toks := tk' }) → wpAny (model G.prog G.w) c.A (call f vs) Q E s

theorem noStar {c : Cx} {pos : Pos} : ∀ {es : List Expr}, (∀ e ∈ es, ∀ r, starEach (e :: r) c.env = (false, eval e c.env) :: starEach r c.env) → (backTo pos (starEach es c.env)).any (·.1) = false
  | [], _ => rfl
  | e :: es, h => by
    rw [h e (.head _) es]
    show (false || (backTo pos (starEach es c.env)).any (·.1)) = false
    rw [noStar fun e' he => h e' (.tail _ he)]; rfl

theorem ev_calld {x : Str} {p pos : Pos} {e : Expr} {es : List Expr} {f : Addr} {o : Obj} {fd : FuncData} {sls : List Slot} {sl : Slot} (ok : c.Ok G lev) (h0 : Ev G c oc ml (.Name x p) (.raw (.ref f)) oc) (hl : G.K.lookup f = some o) (hd : o.data = .func fd)
    (h1 : EvL G c oc ml (e :: es) sls oc1) (h2 : Cal G c oc1 ml (.ref f) sls sl oc2) (he : starEach (e :: es) c.env = (false, eval e c.env) :: starEach es c.env := by rfl) : Ev G c oc ml (.Call (.Name x p) (e :: es) [] pos) sl oc2 := by
  intro tm s Q E S k
  refine Call_ (h0 tm s _ E S fun v g t S1 => ?_)
  obtain rfl : v = .ref f := by obtain ⟨_, _, _, S1⟩ := S1; exact S1.tmp _ (.head _)
  refine callWith_def (o := o) (fd := fd) hd (h1 pos tm _ _ E (S1.tms sub1) fun vs g2 t2 hln S2 => ⟨?_, h2 tm _ Q E vs hln S2 k⟩) he
  obtain ⟨m, own, fz, S2⟩ := S2
  exact (S2.up ok).1 _ _ (G.X _ _ hl)

theorem ev_callb {x : Str} {p pos : Pos} {e : Expr} {es : List Expr} {id : String} {sls : List Slot} {sl : Slot} (h0 : Ev G c oc ml (.Name x p) (.raw (.builtin id)) oc)
    (h1 : EvL G c oc ml (e :: es) sls oc1) (h2 : Cal G c oc1 ml (.builtin id) sls sl oc2) (hn : (backTo pos (starEach (e :: es) c.env)).any (·.1) = false := by rfl)
    (he : backTo pos (starEach (e :: es) c.env) = (false, eval e c.env) :: backTo pos (starEach es c.env) := by rfl) : Ev G c oc ml (.Call (.Name x p) (e :: es) [] pos) sl oc2 := by
  intro tm s Q E S k
  refine Call_ (h0 tm s _ E S fun v g t S1 => ?_)
  obtain rfl : v = .builtin id := by obtain ⟨_, _, _, S1⟩ := S1; exact S1.tmp _ (.head _)
  refine Calls.callWith_builtin hn ?_
  rw [he]
  refine Calls.evalArgs_plain ?_
  rw [← he]
  exact h1 pos tm _ _ E (S1.tms sub1) fun vs g2 t2 hln S2 => h2 tm _ Q E vs hln S2 k

theorem ev_callt {x : Str} {p pos : Pos} {e : Expr} {es : List Expr} {id : String} {sls : List Slot} {sl : Slot} (h0 : Ev G c oc ml (.Name x p) (.raw (.type id)) oc)
    (h1 : EvL G c oc ml (e :: es) sls oc1) (h2 : Cal G c oc1 ml (.type id) sls sl oc2) (hn : (backTo pos (starEach (e :: es) c.env)).any (·.1) = false := by rfl)
    (he : backTo pos (starEach (e :: es) c.env) = (false, eval e c.env) :: backTo pos (starEach es c.env) := by rfl) : Ev G c oc ml (.Call (.Name x p) (e :: es) [] pos) sl oc2 := by
  intro tm s Q E S k
  refine Call_ (h0 tm s _ E S fun v g t S1 => ?_)
  obtain rfl : v = .type id := by obtain ⟨_, _, _, S1⟩ := S1; exact S1.tmp _ (.head _)
  refine PyProof.Rows.callWith_type hn ?_
  rw [he]
  refine Calls.evalArgs_plain ?_
  rw [← he]
  exact h1 pos tm _ _ E (S1.tms sub1) fun vs g2 t2 hln S2 => h2 tm _ Q E vs hln S2 k

theorem zip1 {vs : List Value} {sl : Slot} (h : vs.length = [sl].length) : ∃ v, vs = [v] := by
  match vs, h with
  | [v], _ => exact ⟨v, rfl⟩
theorem zip2 {vs : List Value} {s1 s2 : Slot} (h : vs.length = [s1, s2].length) : ∃ v w, vs = [v, w] := by
  match vs, h with
  | [v, w], _ => exact ⟨v, w, rfl⟩

theorem k_len_lst {sl : Slot} {xs : List PyData} (ok : c.Ok G lev) (hl : Lst oc sl xs) (hsz : xs.length ≤ 10000) : Cal G c oc ml (.builtin "len") [sl] (.d (.int xs.length)) oc := by
  rintro tm s Q E vs hln ⟨m, own, fz, S⟩ k
  obtain ⟨v, rfl⟩ := zip1 hln
  obtain ⟨a, ws, rfl, hL, r⟩ := S.lst ok hl (S.tmp _ (.head _))
  have e : (ws.toArray.size : Int) = xs.length := by simp [r.length]
  refine PyProof.Rows.len_list hL (by rw [e]; omega) ?_
  rw [e]
  exact k _ s.heap _ ⟨m, own, fz, S.put sub1 (RV.int _ _)⟩
theorem k_len_tup {xs : List PyData} (ok : c.Ok G lev) (hsz : xs.length ≤ 10000) : Cal G c oc ml (.builtin "len") [.d (.tuple xs)] (.d (.int xs.length)) oc := by
  rintro tm s Q E vs hln ⟨m, own, fz, S⟩ k
  obtain ⟨v, rfl⟩ := zip1 hln
  obtain ⟨a, ws, rfl, hL, r⟩ := S.isTup ok (S.tmp _ (.head _))
  have e : (ws.toArray.size : Int) = xs.length := by simp [r.length]
  refine PyProof.Rows.len_tuple hL (by rw [e]; omega) ?_
  rw [e]
  exact k _ s.heap _ ⟨m, own, fz, S.put sub1 (RV.int _ _)⟩
theorem k_len_str {x : Str} (hsz : x.length ≤ 10000) : Cal G c oc ml (.builtin "len") [.d (.str x)] (.d (.int x.length)) oc := by
  rintro tm s Q E vs hln ⟨m, own, fz, S⟩ k
  obtain ⟨v, rfl⟩ := zip1 hln
  obtain ⟨t, rfl⟩ := rv_str (S.tmp _ (.head _))
  exact PyProof.Rows.len_str (by omega) (k _ s.heap _ ⟨m, own, fz, S.put sub1 (RV.int _ _)⟩)
theorem Cx.Ok.handA (ok : c.Ok G lev) : c.A.handled = none := ok.hand
theorem k_max {a b : Int} (ok : c.Ok G lev) : Cal G c oc ml (.builtin "max") [.d (.int a), .d (.int b)] (.d (.int (if b > a then b else a))) oc := by
  rintro tm s Q E vs hln ⟨m, own, fz, S⟩ k
  obtain ⟨v, w, rfl⟩ := zip2 hln
  obtain ⟨t, rfl⟩ := rv_int (S.tmp _ (.head _))
  obtain ⟨u, rfl⟩ := rv_int (S.tmp _ (.tail _ (.head _)))
  refine max_two_N ok.handA S.F S.N fun h' tk F' N' => k _ h' tk ⟨m, own, fz, ⟨F', N', S.O, S.nd, S.ap, S.sub, S.V, fun x hx => ?_⟩⟩
  rcases List.mem_cons.mp hx with rfl | hx
  · exact RV.int _ _
  · exact S.tmp x (.tail _ (.tail _ hx))
theorem intsAre_of {H0 : Heap} : ∀ {vs : List Value} {ns : List Int}, RVs H0 fz vs (ns.map .int) → IntsAre vs ns
  | [], [], _ => .nil
  | v :: vs, n :: ns, r => by
    cases r with
    | cons r rs => obtain ⟨t, rfl⟩ := rv_int r; exact .cons _ _ (intsAre_of rs)
  | [], _ :: _, r => nomatch r
  | _ :: _, [], r => nomatch r
theorem k_sum {sl : Slot} {ns : List Int} (ok : c.Ok G lev) (hl : Lst oc sl (ns.map .int)) : Cal G c oc ml (.builtin "sum") [sl] (.d (.int ns.sum)) oc := by
  rintro tm s Q E vs hln ⟨m, own, fz, S⟩ k
  obtain ⟨v, rfl⟩ := zip1 hln
  obtain ⟨a, ws, rfl, hL, r⟩ := S.lst ok hl (S.tmp _ (.head _))
  refine sumK ok.handA S.F S.N hL (intsAre_of r) fun h' tk t' F' N' => k _ h' tk ⟨m, own, fz, ⟨F', N', S.O, S.nd, S.ap, S.sub, S.V, fun x hx => ?_⟩⟩
  rcases List.mem_cons.mp hx with rfl | hx
  · exact RV.int _ _
  · exact S.tmp x (.tail _ hx)
theorem k_int {x : Str} {n : Int} (hn : PySem.intText? x = some n) (hl : x.length ≤ 640) : Cal G c oc ml (.type "int") [.d (.str x)] (.d (.int n)) oc := by
  rintro tm s Q E vs hln ⟨m, own, fz, S⟩ k
  obtain ⟨v, rfl⟩ := zip1 hln
  obtain ⟨t, rfl⟩ := rv_str (S.tmp _ (.head _))
  exact KIN.call_text hn hl (k _ s.heap _ ⟨m, own, fz, S.put sub1 (RV.int _ _)⟩)
theorem k_tuple {sl : Slot} {xs : List PyData} (ok : c.Ok G lev) (hl : Lst oc sl xs) (hsz : xs.length ≤ 10000) : Cal G c oc ml (.type "tuple") [sl] (.d (.tuple xs)) oc := by
  rintro tm s Q E vs hln ⟨m, own, fz, S⟩ k
  obtain ⟨v, rfl⟩ := zip1 hln
  obtain ⟨a, ws, rfl, hL, r⟩ := S.lst ok hl (S.tmp _ (.head _))
  refine call_tuple_list hL (fun h' hk => ?_) (by rw [List.size_toArray, r.length]; exact sz_ok hsz)
  have F' := S.F.keeps hk
  have N' : News c.h₀ c.L h' (own ++ fz) := fun p hp => ⟨hk _ _ (S.N p hp).1, (S.N p hp).2⟩
  refine k _ _ s.toks ⟨m, own, _, (S.push (F'.push _) (N'.push F' _) ?_).put sub1 (rv_tup_new r)⟩
  cases q : s.heap.get? h'.objs.size with
  | none => rfl
  | some o => exact absurd (Heap.lt_size (hk _ _ q)) (Nat.lt_irrefl _)
end
end Mine
end
section
open PySem PySem.W PyProof.Rows PySem.Calls PySem.Spec
namespace Mine
section
variable {G : Glo} {c : Cx} {oc oc1 oc2 oc3 oc' : List (Addr × Cell)} {ml : List (Str × Slot)} {tm : List (Value × Slot)} {h h' : Heap} {m : Str → Option Value} {own fz : Led} {lev : Nat}

/-! ## lists and tuples glued, repeated -/
theorem b_add_list {s1 s2 : Slot} {xs ys : List PyData} (ok : c.Ok G lev) (h1 : Lst oc s1 xs) (h2 : Lst oc s2 ys) (hsz : xs.length + ys.length ≤ 10000) : Bin G c oc ml (binaryOp .Add) s1 s2 (.d (.list (xs ++ ys))) oc := by
  rintro tm s Q E v1 v2 ⟨m, own, fz, S⟩ k
  obtain ⟨b, ws, rfl, hb, rb⟩ := S.lst ok h2 (S.tmp _ (.head _))
  obtain ⟨a, vs, rfl, ha, ra⟩ := S.lst ok h1 (S.tmp _ (.tail _ (.head _)))
  refine add_lists S.F S.N ha hb (fun h' F' N' => ?_) (by rw [ra.length, rb.length]; exact sz_ok hsz)
  exact k _ h' s.toks (S.pushT F' N' sub2 (rv_lst_new (ra.append rb)))
theorem b_add_tup {xs ys : List PyData} (ok : c.Ok G lev) (hsz : xs.length + ys.length ≤ 10000) : Bin G c oc ml (binaryOp .Add) (.d (.tuple xs)) (.d (.tuple ys)) (.d (.tuple (xs ++ ys))) oc := by
  rintro tm s Q E v1 v2 ⟨m, own, fz, S⟩ k
  have q2 := S.tmp _ (.head _)
  have q1 := S.tmp _ (.tail _ (.head _))
  obtain ⟨b, ws, rfl, hb, rb⟩ := S.isTup ok q2
  obtain ⟨a, vs, rfl, ha, ra⟩ := S.isTup ok q1
  have la := ra.length
  have lb := rb.length
  refine add_tuples S.F S.N ha hb (fun e => ?_) (fun _ e => ?_) (fun _ _ h' F' N' => ?_) (by rw [la, lb]; exact sz_ok hsz)
  · subst e
    have : xs = [] := by cases xs with | nil => rfl | cons => simp at la
    subst this
    exact k _ s.heap s.toks ⟨m, own, fz, S.put sub2 q2⟩
  · subst e
    have : ys = [] := by cases ys with | nil => rfl | cons => simp at lb
    subst this
    exact k _ s.heap s.toks ⟨m, own, fz, S.put sub2 (by rw [List.append_nil]; exact q1)⟩
  · exact k _ h' s.toks (S.pushT F' N' sub2 (rv_tup_new (ra.append rb)))
theorem b_add_str {x y : Str} (hsz : x.length + y.length ≤ 10000) : Bin G c oc ml (binaryOp .Add) (.d (.str x)) (.d (.str y)) (.d (.str (x ++ y))) oc := by
  rintro tm s Q E v1 v2 ⟨m, own, fz, S⟩ k
  obtain ⟨u, rfl⟩ := rv_str (S.tmp _ (.head _))
  obtain ⟨t, rfl⟩ := rv_str (S.tmp _ (.tail _ (.head _)))
  exact PyProof.Rows.add_str (fun t' tk => k _ s.heap tk ⟨m, own, fz, S.put sub2 (RV.str _ _)⟩) (sz_ok hsz)
/-! ## control -/
theorem ev_not {x : Expr} {pos : Pos} {b : Bool} (h1 : Ev G c oc ml x (.d (.bool b)) oc1) : Ev G c oc ml (.UnaryOp .Not x pos) (.d (.bool !b)) oc1 := by
  intro tm s Q E S k
  refine UnaryOp_ (h1 tm s _ E S fun v g t S1 => ?_)
  obtain ⟨m, own, fz, S1⟩ := S1
  obtain rfl := rv_bool (S1.tmp _ (.head _))
  exact not_of (wpAny_truthy_bool (k _ g t ⟨m, own, fz, S1.put sub1 (RV.bool _)⟩))
theorem ev_neg {x : Expr} {pos : Pos} {a : Int} (h1 : Ev G c oc ml x (.d (.int a)) oc1) : Ev G c oc ml (.UnaryOp .USub x pos) (.d (.int (-a))) oc1 := by
  intro tm s Q E S k
  refine UnaryOp_ (h1 tm s _ E S fun v g t S1 => ?_)
  obtain ⟨m, own, fz, S1⟩ := S1
  obtain ⟨t, rfl⟩ := rv_int (S1.tmp _ (.head _))
  exact PyProof.Rows.neg_int (k _ g _ ⟨m, own, fz, S1.put sub1 (RV.int _ _)⟩)
theorem ev_if_t {t x y : Expr} {pos : Pos} {sl : Slot} (h1 : Tr G c oc ml t true oc1) (h2 : Ev G c oc1 ml x sl oc2) : Ev G c oc ml (.IfExp t x y pos) sl oc2 := by
  intro tm s Q E S k
  refine IfExp_ (h1 tm s _ E S fun g t S1 => ?_)
  exact h2 tm _ Q E S1 k
theorem ev_if_f {t x y : Expr} {pos : Pos} {sl : Slot} (h1 : Tr G c oc ml t false oc1) (h2 : Ev G c oc1 ml y sl oc2) : Ev G c oc ml (.IfExp t x y pos) sl oc2 := by
  intro tm s Q E S k
  refine IfExp_ (h1 tm s _ E S fun g t S1 => ?_)
  exact h2 tm _ Q E S1 k
theorem tr_not {x : Expr} {pos : Pos} {b : Bool} (h1 : Tr G c oc ml x b oc1) : Tr G c oc ml (.UnaryOp .Not x pos) (!b) oc1 := by
  intro tm s Q E S k
  exact isTrue_not (h1 tm s _ E S k)
theorem tr_and_nil {pos : Pos} : Tr G c oc ml (.BoolOp .And [] pos) true oc := fun tm s Q E S k => isTrue_and_nil (k _ _ S)
theorem tr_or_nil {pos : Pos} : Tr G c oc ml (.BoolOp .Or [] pos) false oc := fun tm s Q E S k => isTrue_or_nil (k _ _ S)
theorem tr_and_t {x : Expr} {r : List Expr} {pos : Pos} {b : Bool} (h1 : Tr G c oc ml x true oc1) (h2 : Tr G c oc1 ml (.BoolOp .And r pos) b oc2) : Tr G c oc ml (.BoolOp .And (x :: r) pos) b oc2 := by
  intro tm s Q E S k
  refine isTrue_and (h1 tm s _ E S fun g t S1 => ?_)
  exact h2 tm _ Q E S1 k
theorem tr_and_f {x : Expr} {r : List Expr} {pos : Pos} (h1 : Tr G c oc ml x false oc1) : Tr G c oc ml (.BoolOp .And (x :: r) pos) false oc1 := by
  intro tm s Q E S k
  exact isTrue_and (h1 tm s _ E S fun g t S1 => k _ _ S1)
theorem tr_or_f {x : Expr} {r : List Expr} {pos : Pos} {b : Bool} (h1 : Tr G c oc ml x false oc1) (h2 : Tr G c oc1 ml (.BoolOp .Or r pos) b oc2) : Tr G c oc ml (.BoolOp .Or (x :: r) pos) b oc2 := by
  intro tm s Q E S k
  refine isTrue_or (h1 tm s _ E S fun g t S1 => ?_)
  exact h2 tm _ Q E S1 k
theorem tr_or_t {x : Expr} {r : List Expr} {pos : Pos} (h1 : Tr G c oc ml x true oc1) : Tr G c oc ml (.BoolOp .Or (x :: r) pos) true oc1 := by
  intro tm s Q E S k
  exact isTrue_or (h1 tm s _ E S fun g t S1 => k _ _ S1)
/-- and, or as values, of bools -/
theorem ev_and_one {x : Expr} {op : BoolOp} {pos : Pos} {sl : Slot} (h1 : Ev G c oc ml x sl oc1) : Ev G c oc ml (.BoolOp op [x] pos) sl oc1 := fun tm s Q E S k => BoolOp_one (h1 tm s Q E S k)
theorem ev_and_t {x y : Expr} {r : List Expr} {pos : Pos} {sl : Slot} (h1 : Ev G c oc ml x (.d (.bool true)) oc1) (h2 : Ev G c oc1 ml (.BoolOp .And (y :: r) pos) sl oc2) : Ev G c oc ml (.BoolOp .And (x :: y :: r) pos) sl oc2 := by
  intro tm s Q E S k
  refine BoolOp_and (h1 tm s _ E S fun v g t S1 => ?_)
  obtain ⟨m, own, fz, S1⟩ := S1
  obtain rfl := rv_bool (S1.tmp _ (.head _))
  exact wpAny_truthy_bool (h2 tm _ Q E ⟨m, own, fz, S1.tms sub1⟩ k)
theorem ev_and_f {x y : Expr} {r : List Expr} {pos : Pos} (h1 : Ev G c oc ml x (.d (.bool false)) oc1) : Ev G c oc ml (.BoolOp .And (x :: y :: r) pos) (.d (.bool false)) oc1 := by
  intro tm s Q E S k
  refine BoolOp_and (h1 tm s _ E S fun v g t S1 => ?_)
  have S2 := S1
  obtain ⟨m, own, fz, S1⟩ := S1
  obtain rfl := rv_bool (S1.tmp _ (.head _))
  exact wpAny_truthy_bool (k _ g t S2)

/-! ## dict.get of a table of the top -/
theorem ev_get2 {o a b : Expr} {apos pos : Pos} {d : Addr} {es : Array DictEntry} {n : Nat} {x : Str} {dd dr : PyData} {r : Option Value} {pl : Sem Bool} (ok : c.Ok G lev) (h0 : Ev G c oc ml o (.raw (.ref d)) oc) (h1 : Ev G c oc ml a (.d (.str x)) oc1) (h2 : Ev G c oc1 ml b (.d dd) oc2)
    (hl : G.K.lookup d = some ⟨.type "dict", none, .dict es n, #[]⟩) (hk : KeysLit G.w.params es.toList) (e : nsIn G.K d x = some r) (lo : (d == sysModules) = false)
    (hr : match r with | some v => RV G.H0 [] v dr | none => dr = dd)
    (he : eval (.Call (.Attribute o (Str.ofString "get") apos) [a, b] [] pos) c.env = (do
      let ov ← eval o c.env
      standAt apos.atName
      let (f, first) ← holding [ov] (getMethod ov (Str.ofString "get") pl)
      callWith pos f first (backTo pos (starEach [a, b] c.env)) []) := by rfl)
    (hst : starEach [a, b] c.env = [(false, eval a c.env), (false, eval b c.env)] := by rfl) :
    Ev G c oc ml (.Call (.Attribute o (Str.ofString "get") apos) [a, b] [] pos) (.d dr) oc2 := by
  intro tm s Q E S k
  refine MethodCall_ (h0 tm s _ E S fun v g t S1 => ?_) he
  have S1' : St G c oc ml tm g := S1.tms sub1
  obtain ⟨m, own, fz, S1⟩ := S1
  obtain rfl : v = .ref d := S1.tmp _ (.head _)
  have hm : ∀ {h : Heap}, (∀ b o, G.H0.get? b = some o → h.get? b = some o) → h.MapOf (strKind G.prog G.w) d (fun k => findBy Value.isStrOf es k) := fun up => mapOf_K (prog := G.prog) (G.X.keeps up) hl hk
  refine getMethod_builtin (hm (S1.up ok).1).typeIs PySem.F.plainAttrs_dict PySem.F.slot_dict_get PySem.F.type_dict_get (hm (S1.up ok).1).noDict ?_
  rw [hst]
  show wpAny _ _ (callWith pos (.builtin "dict.get") [.ref d] [(false, eval a c.env), (false, eval b c.env)] []) Q E _
  refine wpAny_dict_get2 (knd := strKind G.prog G.w) lo (h1 tm _ _ E S1' fun v1 g1 t1 S2 => ?_)
  refine h2 _ _ _ E S2 fun v2 g2 t2 S3 => ?_
  obtain ⟨m, own, fz, S3⟩ := S3
  obtain ⟨tk, rfl⟩ := rv_str (S3.tmp _ (.tail _ (.head _)))
  refine ⟨x, _, strKind_is G.prog G.w x tk, hm (S3.up ok).1, ?_⟩
  dsimp only
  rw [find_K hl e]
  refine k _ g2 _ ⟨m, own, fz, S3.put sub2 ?_⟩
  cases r with
  | none => dsimp only at hr ⊢; subst hr; exact S3.tmp _ (.head _)
  | some v => exact RV.more (by intro _ h; cases h) hr

/-! ## an owned object turned -/
theorem owns_split : ∀ {pre post : List (Addr × Cell)} {own : Led} {a : Addr} {cl : Cell}, Owns G fz (pre ++ (a, cl) :: post) own →
    ∃ own1 o own2, own = own1 ++ (a, o) :: own2 ∧ CellObj G fz o cl ∧ ∀ o' cl', CellObj G fz o' cl' → Owns G fz (pre ++ (a, cl') :: post) (own1 ++ (a, o') :: own2)
  | [], post, (b, o) :: r, a, cl, ⟨e, q, rs⟩ => by subst e; exact ⟨[], o, r, rfl, q, fun o' cl' q' => ⟨rfl, q', rs⟩⟩
  | (b, cb) :: pre, post, (b', o') :: r, a, cl, ⟨e, q, rs⟩ => by
    obtain ⟨own1, o, own2, e2, q2, k⟩ := owns_split rs
    subst e2
    exact ⟨(b', o') :: own1, o, own2, rfl, q2, fun o'' cl' q' => ⟨e, q, k o'' cl' q'⟩⟩
  | [], _, [], _, _, h => h.elim
  | _ :: _, _, [], _, _, h => h.elim

/-- one owned list's object is another now -/
theorem St0.turn {pre post : List (Addr × Cell)} {a : Addr} {cl cl' : Cell} (S : St0 G c (pre ++ (a, cl) :: post) ml tm h m own fz) :
    ∃ o, h.get? a = some o ∧ CellObj G fz o cl ∧ ((∀ o, cl ≠ .raw o) →
      (∀ f : Obj → Obj, (f o).isFreed = false → CellObj G fz (f o) cl' → St G c (pre ++ (a, cl') :: post) ml tm (h.update a f)) ∧
      (∀ (h' : Heap) o', Heap.SameBut a h h' → h'.get? a = some o' → CellObj G fz o' cl' → St G c (pre ++ (a, cl') :: post) ml tm h')) := by
  obtain ⟨own1, o, own2, e, q, kk⟩ := owns_split S.O
  subst e
  have hmem := S.N (a, o) (List.mem_append_left _ (List.mem_append_right _ (.head _)))
  have hnd := S.nd
  have n1 : ∀ p ∈ own1, p.1 ≠ a := fun p hp e => by
    rw [List.map_append, List.map_cons, List.nodup_append] at hnd
    exact hnd.2.2 p.1 (List.mem_map_of_mem hp) a (.head _) e
  have n2 : ∀ p ∈ own2, p.1 ≠ a := fun p hp e => by
    rw [List.map_append, List.map_cons, List.nodup_append] at hnd
    exact (List.nodup_cons.mp hnd.2.1).1 (List.mem_map.mpr ⟨p, hp, e⟩)
  have n3 : ∀ p ∈ own2 ++ fz, p.1 ≠ a := fun p hp e => by
    rcases List.mem_append.mp hp with hp | hp
    · exact n2 p hp e
    · exact S.ap (a, o) (List.mem_append_right _ (.head _)) p hp e.symm
  have fin : ∀ (h' : Heap) o', Fr c.h₀ c.L h' m → News c.h₀ c.L h' (own1 ++ (a, o') :: (own2 ++ fz)) → (∀ o, cl ≠ .raw o) → CellObj G fz o' cl' → St G c (pre ++ (a, cl') :: post) ml tm h' := by
    intro h' o' F' N' d1 q'
    refine ⟨m, own1 ++ (a, o') :: own2, fz, F', by rw [List.append_assoc]; exact N', kk o' cl' q', ?_, ?_, S.sub, fun el hel x hx => ?_, S.tmp⟩
    · rw [List.map_append, List.map_cons] at hnd ⊢; exact hnd
    · intro p hp q hq
      rcases List.mem_append.mp hp with hp | hp
      · exact S.ap p (List.mem_append_left _ hp) q hq
      · rcases List.mem_cons.mp hp with rfl | hp
        · exact S.ap (a, o) (List.mem_append_right _ (.head _)) q hq
        · exact S.ap p (List.mem_append_right _ (.tail _ hp)) q hq
    · obtain ⟨v, hv, r⟩ := S.V el hel x hx
      refine ⟨v, hv.keep fun b ob hb => ?_, r⟩
      rcases List.mem_append.mp hb with hb | hb
      · exact List.mem_append_left _ hb
      · rcases List.mem_cons.mp hb with hb | hb
        · cases hb; exact absurd rfl (d1 _)
        · exact List.mem_append_right _ (.tail _ hb)
  refine ⟨o, hmem.1, q, fun d1 => ⟨fun f hf q' => ?_, fun h' o' hs ho' q' => ?_⟩⟩
  · have N := S.N
    rw [List.append_assoc] at N
    obtain ⟨F', N'⟩ := news_upd (f := f) (o' := f o) S.F N n1 n3 rfl hf
    exact fin _ _ F' N' d1 q'
  · have N := S.N
    rw [List.append_assoc] at N
    exact fin h' o' (S.F.change hs hmem.2.1 hmem.2.2) (news_set N n1 n3 hs ho') d1 q'
end
end Mine
end
section
open PySem PySem.W PyProof.Rows PySem.Calls PySem.Spec
namespace Mine

inductive Out where
  | next (oc : List (Addr × Cell)) (ml : List (Str × Slot))
  | cont (oc : List (Addr × Cell)) (ml : List (Str × Slot))
  | ret (sl : Slot) (oc : List (Addr × Cell))
  | exc (oc : List (Addr × Cell)) (ml : List (Str × Slot))

/-- a frame's own statements: names are looked up in the frame -/
structure Cx.FOk (G : Glo) (c : Cx) (lev : Nat) : Prop extends Cx.Ok G c lev where
  same : c.env = c.fenv
  locs : c.fenv.locals = c.L
  nofml : c.fml = []
  cinj : ∀ x y a, c.env.cells.lookup x = some a → c.env.cells.lookup y = some a → x = y

/-- an object of BadCode, made behind h -/
structure Fresh (h h' : Heap) (e : Addr) : Prop where
  keeps : ∀ b o, h.get? b = some o → h'.get? b = some o
  new : h.get? e = none
  there : ∃ t dx sl v n, h'.get? e = some ⟨.ref 44, dx, .fields #[.ref t, .none, .none, .none, .bool false, .none], sl⟩ ∧ h.get? t = none ∧ h'.get? t = some ⟨.type "tuple", none, .seq #[v] n, #[]⟩

/-- an exception that has left a frame: what stands of the heap behind the frames -/
noncomputable def RS (base g : Heap) (l : List Env) (e : Addr) (news : Led) (h : Heap) : Prop :=
  ∃ B a0, base.StaysIn B ∧ (∀ b o, g.get? b = some o → b ∉ l.filterMap (·.frame) → B.get? b = some o) ∧ (∀ q ∈ news, B.get? q.1 = some q.2 ∧ g.get? q.1 = none ∧ base.get? q.1 = none) ∧ Heap.FlyingW B l e (.ref 44) a0 h

/-- an exception has come out of a call -/
structure Exc0 (G : Glo) (c : Cx) (oc : List (Addr × Cell)) (ml : List (Str × Slot)) (e : Addr) (h' : Heap) (g : Heap) (m : Str → Option Value) (own fz : Led) : Prop where
  F : Fr c.h₀ c.L g m
  R : RS G.H0 g (c.fenv :: c.outer) e (own ++ fz) h'
  up : g.UpToSlots h'
  O : Owns G fz oc own
  nd : (own.map (·.1)).Nodup
  ap : ∀ p ∈ own, ∀ q ∈ fz, p.1 ≠ q.1
  sub : ∀ x ∈ c.fz0, x ∈ fz
  V : ∀ x ∈ ml, ∃ v, VarAt c.env c.L m oc x.1 v ∧ SlotRel G fz v x.2

/-- an exception under way: made in this frame, or come out of a call -/
noncomputable def InExc (G : Glo) (c : Cx) (oc : List (Addr × Cell)) (ml : List (Str × Slot)) (e : Addr) (h' : Heap) : Prop :=
  (∃ h m own fz, St0 G c oc ml [] h m own fz ∧ Fresh h h' e) ∨ (∃ g m own fz, Exc0 G c oc ml e h' g m own fz)

noncomputable def Post (G : Glo) (c : Cx) (tm : List (Value × Slot)) (s : Shared) (Q : Flow → Shared → Prop) (E : Value → Shared → Prop) : Out → Prop
  | .next oc ml => ∀ h' tk', St G c oc ml tm h' → Q .next { s with heap := h', toks := tk' }
  | .cont oc ml => ∀ h' tk', St G c oc ml tm h' → Q .cont { s with heap := h', toks := tk' }
  | .ret sl oc => ∀ v h' tk', St G c oc [] ((v, sl) :: tm) h' → Q (.ret v) { s with heap := h', toks := tk' }
  | .exc oc ml => ∀ e h' tk', InExc G c oc ml e h' → E (.ref e) { s with heap := h', toks := tk' }

noncomputable def Ex (G : Glo) (c : Cx) (oc : List (Addr × Cell)) (ml : List (Str × Slot)) (ss : List Stmt) (out : Out) : Prop :=
  ∀ (tm : List (Value × Slot)) (s : Shared) (Q : Flow → Shared → Prop) (E : Value → Shared → Prop), PassesOwn (model G.prog G.w) c.A c.env E → St G c oc ml tm s.heap → Post G c tm s Q E out → wpAny (model G.prog G.w) c.A (execs ss c.env) Q E s
noncomputable def Sx (G : Glo) (c : Cx) (oc : List (Addr × Cell)) (ml : List (Str × Slot)) (st : Stmt) (out : Out) : Prop :=
  ∀ (tm : List (Value × Slot)) (s : Shared) (Q : Flow → Shared → Prop) (E : Value → Shared → Prop), PassesOwn (model G.prog G.w) c.A c.env E → St G c oc ml tm s.heap → Post G c tm s Q E out → wpAny (model G.prog G.w) c.A (exec st c.env) Q E s

noncomputable def updm (x : Str) (sl : Slot) (ml : List (Str × Slot)) : List (Str × Slot) := (x, sl) :: ml.filter (fun p => decide (p.1 ≠ x))
theorem updm_self {x : Str} {sl : Slot} {ml : List (Str × Slot)} : (x, sl) ∈ updm x sl ml := .head _
theorem updm_ne {x y : Str} {sl sl' : Slot} {ml : List (Str × Slot)} (h : (y, sl') ∈ ml) (n : y ≠ x) : (y, sl') ∈ updm x sl ml := .tail _ (List.mem_filter.mpr ⟨h, by simpa using n⟩)

section
variable {G : Glo} {c : Cx} {oc oc1 oc2 oc3 oc' : List (Addr × Cell)} {ml ml1 ml2 ml' : List (Str × Slot)} {tm : List (Value × Slot)} {h h' : Heap} {m : Str → Option Value} {own fz : Led} {lev : Nat} {out : Out}

theorem ex_nil : Ex G c oc ml [] (.next oc ml) := fun tm s Q E hE S k => wpAny_execs_nil (k _ _ S)
theorem ex_cons {st : Stmt} {rest : List Stmt} (h1 : Sx G c oc ml st (.next oc1 ml1)) (h2 : Ex G c oc1 ml1 rest out) : Ex G c oc ml (st :: rest) out := by
  intro tm s Q E hE S k
  refine wpAny_execs_cons (h1 tm s _ E hE S fun g t S1 => ?_)
  refine h2 tm _ Q E hE S1 ?_
  cases out <;> exact k
theorem ex_ret {st : Stmt} {rest : List Stmt} {sl : Slot} (h1 : Sx G c oc ml st (.ret sl oc1)) : Ex G c oc ml (st :: rest) (.ret sl oc1) := by
  intro tm s Q E hE S k
  exact wpAny_execs_cons (h1 tm s _ E hE S fun v g t S1 => k v g t S1)
theorem ex_cont {st : Stmt} {rest : List Stmt} (h1 : Sx G c oc ml st (.cont oc1 ml1)) : Ex G c oc ml (st :: rest) (.cont oc1 ml1) := by
  intro tm s Q E hE S k
  exact wpAny_execs_cons (h1 tm s _ E hE S fun g t S1 => k g t S1)
theorem ex_exc {st : Stmt} {rest : List Stmt} (h1 : Sx G c oc ml st (.exc oc1 ml1)) : Ex G c oc ml (st :: rest) (.exc oc1 ml1) := by
  intro tm s Q E hE S k
  exact wpAny_execs_cons (h1 tm s _ E hE S fun e g t S1 => k e g t S1)
/-- what holds of more names holds of fewer -/
theorem ex_weak {ss : List Stmt} (hs : ∀ x ∈ ml', x ∈ ml) (h1 : Ex G c oc ml' ss out) : Ex G c oc ml ss out := fun tm s Q E hE S k => h1 tm s Q E hE (S.mls hs) k
theorem sx_weak_next {st : Stmt} (h1 : Sx G c oc ml st (.next oc1 ml1)) (hs : ∀ x ∈ ml2, x ∈ ml1) : Sx G c oc ml st (.next oc1 ml2) := fun tm s Q E hE S k => h1 tm s Q E hE S fun g t S1 => k g t (S1.mls hs)
theorem ex_weak_next {ss : List Stmt} (h1 : Ex G c oc ml ss (.next oc1 ml1)) (hs : ∀ x ∈ ml2, x ∈ ml1) : Ex G c oc ml ss (.next oc1 ml2) := fun tm s Q E hE S k => h1 tm s Q E hE S fun g t S1 => k g t (S1.mls hs)
theorem ex_weak_cont {ss : List Stmt} (h1 : Ex G c oc ml ss (.cont oc1 ml1)) (hs : ∀ x ∈ ml2, x ∈ ml1) : Ex G c oc ml ss (.cont oc1 ml2) := fun tm s Q E hE S k => h1 tm s Q E hE S fun g t S1 => k g t (S1.mls hs)

theorem sx_return {e : Expr} {pos : Pos} {sl : Slot} (h1 : Ev G c oc ml e sl oc1) : Sx G c oc ml (.Return (some e) pos) (.ret sl oc1) := by
  intro tm s Q E hE S k
  refine wpAny_Return_some (h1 tm s _ E S fun v g t S1 => k v g t (S1.mls fun _ h => nomatch h))
theorem sx_continue {pos : Pos} : Sx G c oc ml (.Continue pos) (.cont oc ml) := fun tm s Q E hE S k => wpAny_bind (wpAny_standAt (wpAny_pure (k _ _ S)))
theorem sx_if_t {t : Expr} {b o : List Stmt} {pos : Pos} (h1 : Tr G c oc ml t true oc1) (h2 : Ex G c oc1 ml b out) : Sx G c oc ml (.If t b o pos) out := by
  intro tm s Q E hE S k
  refine wpAny_If (h1 tm s _ E S fun g t S1 => ?_)
  refine h2 tm _ Q E hE S1 ?_
  cases out <;> exact k
theorem sx_if_f {t : Expr} {b o : List Stmt} {pos : Pos} (h1 : Tr G c oc ml t false oc1) (h2 : Ex G c oc1 ml o out) : Sx G c oc ml (.If t b o pos) out := by
  intro tm s Q E hE S k
  refine wpAny_If (h1 tm s _ E S fun g t S1 => ?_)
  refine h2 tm _ Q E hE S1 ?_
  cases out <;> exact k
theorem sx_expr {e : Expr} {pos : Pos} {sl : Slot} (h1 : Ev G c oc ml e sl oc1) (hi : interactive c.env = false := by rfl) (hs : swapsWith e none pos.line c.env = pure false := by rfl) : Sx G c oc ml (.Expr e pos) (.next oc1 ml) := by
  intro tm s Q E hE S k
  exact wpAny_Expr_any (h1 tm s _ E S fun v g t S1 => k g t (S1.tms sub1)) hi hs

theorem vs_of {ml : List (Str × Slot)} (hf : c.fml = []) (hv : ∀ x ∈ ml, ∃ v, VarAt c.env c.L m oc x.1 v ∧ SlotRel G fz v x.2) : ∀ el ∈ [(c.env, ml), (c.fenv, c.fml)], ∀ x ∈ el.2, ∃ v, VarAt el.1 c.L m oc x.1 v ∧ SlotRel G fz v x.2 := fun el hel x hx => by
  rcases List.mem_cons.mp hel with rfl | hel
  · exact hv x hx
  · rw [List.mem_singleton.mp hel] at hx
    have hx : x ∈ c.fml := hx
    rw [hf] at hx
    cases hx
/-- a name of the frame's is bound -/
theorem store_local {x : Str} {v : Value} {sl : Slot} {s : Shared} {Q : Unit → Shared → Prop} {E : Value → Shared → Prop} (ok : c.FOk G lev) (hx : c.env.kindOf x = some .local) (S : St G c oc ml ((v, sl) :: tm) s.heap)
    (k : ∀ h' tk', St G c oc (updm x sl ml) tm h' → Q () { s with heap := h', toks := tk' }) : wpAny (model G.prog G.w) c.A (storeName c.env x v) Q E s := by
  obtain ⟨m, own, fz, S⟩ := S
  have hL : c.env.locals = c.L := by rw [ok.same, ok.locs]
  refine wpAny_storeName_local hx (hL ▸ S.F.ns) (fun h' hn hs => ?_) (by rw [ok.kind]; rfl)
  rw [hL] at hn hs
  refine k h' _ ⟨_, own, fz, S.F.set hn hs, S.N.set hs, S.O, S.nd, S.ap, S.sub, vs_of ok.nofml fun y hy => ?_, fun y hy => S.tmp y (.tail _ hy)⟩
  rcases List.mem_cons.mp hy with rfl | hy
  · exact ⟨v, .inl ⟨hx, hL, by simp⟩, S.tmp _ (.head _)⟩
  · obtain ⟨hy, hne⟩ := List.mem_filter.mp hy
    have hne : y.1 ≠ x := by simpa using hne
    obtain ⟨w, hw, r⟩ := S.V1 y hy
    refine ⟨w, ?_, r⟩
    rcases hw with ⟨a, b, e⟩ | hw | hw
    · exact .inl ⟨a, b, by simp [hne, e]⟩
    · exact .inr (.inl hw)
    · exact .inr (.inr hw)
theorem sx_assign {x : Str} {p pos : Pos} {e : Expr} {sl : Slot} (ok : c.FOk G lev) (h1 : Ev G c oc ml e sl oc1) (hx : c.env.kindOf x = some .local) (hs : swapsWith e (some (.Name x p)) pos.line c.env = pure false := by rfl) : Sx G c oc ml (.Assign [.Name x p] e pos) (.next oc1 (updm x sl ml)) := by
  intro tm s Q E hE S k
  refine wpAny_Assign_Name (h1 tm s _ E S fun v g t S1 => ?_) hs
  exact store_local ok hx S1 fun h' tk' S2 => k _ _ S2

/-- a name that is a cell -/
theorem store_cell {x : Str} {v : Value} {sl : Slot} {s : Shared} {Q : Unit → Shared → Prop} {E : Value → Shared → Prop} {pre post : List (Addr × Cell)} {a : Addr} {o : Obj} {v₀ : Option Value} (ok : c.FOk G lev) (hx : c.env.kindOf x = some .cell)
    (hc : c.env.cells.lookup x = some a) (hd : o.data = .cell v₀) (S : St G c (pre ++ (a, .raw o) :: post) ml ((v, sl) :: tm) s.heap)
    (k : ∀ h' o', o'.data = .cell (some v) → St G c (pre ++ (a, .raw o') :: post) (updm x sl ml) tm h' → Q () { s with heap := h' }) : wpAny (model G.prog G.w) c.A (storeName c.env x v) Q E s := by
  obtain ⟨m, own, fz, S⟩ := S
  obtain ⟨own1, o1, own2, e, q, kk⟩ := owns_split S.O
  obtain rfl : o1 = o := q
  subst e
  have hmem := S.N (a, o1) (List.mem_append_left _ (List.mem_append_right _ (.head _)))
  have hnd := S.nd
  have n1 : ∀ p ∈ own1, p.1 ≠ a := fun p hp e => by
    rw [List.map_append, List.map_cons, List.nodup_append] at hnd
    exact hnd.2.2 p.1 (List.mem_map_of_mem hp) a (.head _) e
  have n2 : ∀ p ∈ own2, p.1 ≠ a := fun p hp e => by
    rw [List.map_append, List.map_cons, List.nodup_append] at hnd
    exact (List.nodup_cons.mp hnd.2.1).1 (List.mem_map.mpr ⟨p, hp, e⟩)
  have n3 : ∀ p ∈ own2 ++ fz, p.1 ≠ a := fun p hp e => by
    rcases List.mem_append.mp hp with hp | hp
    · exact n2 p hp e
    · exact S.ap (a, o1) (List.mem_append_right _ (.head _)) p hp e.symm
  refine wpAny_storeName_cell ok.kind hx hc ⟨o1, hmem.1, hd⟩ fun h' hv hs => ?_
  obtain ⟨o', ho', hd'⟩ := hv
  have N := S.N
  rw [List.append_assoc] at N
  refine k h' o' hd' ⟨m, own1 ++ (a, o') :: own2, fz, S.F.change hs hmem.2.1 hmem.2.2, ?_, kk o' _ rfl, ?_, ?_, S.sub, vs_of ok.nofml fun y hy => ?_, fun y hy => S.tmp y (.tail _ hy)⟩
  · rw [List.append_assoc]; exact news_set N n1 n3 hs ho'
  · rw [List.map_append, List.map_cons] at hnd ⊢; exact hnd
  · intro p hp q hq
    rcases List.mem_append.mp hp with hp | hp
    · exact S.ap p (List.mem_append_left _ hp) q hq
    · rcases List.mem_cons.mp hp with rfl | hp
      · exact S.ap (a, o1) (List.mem_append_right _ (.head _)) q hq
      · exact S.ap p (List.mem_append_right _ (.tail _ hp)) q hq
  · rcases List.mem_cons.mp hy with rfl | hy
    · exact ⟨v, .inr (.inr ⟨.inl hx, a, o', hc, List.mem_append_right _ (.head _), hd'⟩), S.tmp _ (.head _)⟩
    · obtain ⟨hy, hne⟩ := List.mem_filter.mp hy
      have hne : y.1 ≠ x := by simpa using hne
      obtain ⟨w, hw, r⟩ := S.V1 y hy
      refine ⟨w, ?_, r⟩
      have key : ∀ b ob, (b, Cell.raw ob) ∈ pre ++ (a, Cell.raw o1) :: post → (b, ob) ≠ (a, o1) → (b, Cell.raw ob) ∈ pre ++ (a, Cell.raw o') :: post := fun b ob hb hn => by
        rcases List.mem_append.mp hb with hb | hb
        · exact List.mem_append_left _ hb
        · rcases List.mem_cons.mp hb with hb | hb
          · cases hb; exact absurd rfl hn
          · exact List.mem_append_right _ (.tail _ hb)
      rcases hw with hw | ⟨k1, oC, m₂, hm, hn, r2⟩ | ⟨k1, b, ob, hl, hm, r2⟩
      · exact .inl hw
      · refine .inr (.inl ⟨k1, oC, m₂, key _ _ hm fun z => ?_, hn, r2⟩)
        cases z
        obtain ⟨es, ep, hd2, _⟩ := hn
        rw [hd] at hd2; cases hd2
      · refine .inr (.inr ⟨k1, b, ob, hl, key _ _ hm fun z => ?_, r2⟩)
        cases z
        exact hne (ok.cinj _ _ _ hl hc)
theorem ex_assign_cell {x : Str} {p pos : Pos} {e : Expr} {rest : List Stmt} {sl : Slot} {pre post : List (Addr × Cell)} {a : Addr} {o : Obj} {v₀ : Option Value} (ok : c.FOk G lev) (h1 : Ev G c oc ml e sl (pre ++ (a, .raw o) :: post)) (hx : c.env.kindOf x = some .cell)
    (hc : c.env.cells.lookup x = some a) (hd : o.data = .cell v₀) (h2 : ∀ o' v, o'.data = .cell (some v) → Ex G c (pre ++ (a, .raw o') :: post) (updm x sl ml) rest out) (hs : swapsWith e (some (.Name x p)) pos.line c.env = pure false := by rfl) : Ex G c oc ml (.Assign [.Name x p] e pos :: rest) out := by
  intro tm s Q E hE S k
  refine wpAny_execs_cons (wpAny_Assign_Name (h1 tm s _ E S fun v g t S1 => ?_) hs)
  refine store_cell ok hx hc hd S1 fun h' o' hd' S2 => ?_
  refine h2 o' v hd' tm _ Q E hE S2 ?_
  cases out <;> exact k

/-- ways drop what they own -/
theorem owns_drop : ∀ {pre post : List (Addr × Cell)} {own : Led}, Owns G fz (pre ++ post) own → ∃ own1 own2, own = own1 ++ own2 ∧ Owns G fz post own2
  | [], post, own, h => ⟨[], own, rfl, h⟩
  | _ :: pre, post, p :: own, ⟨_, _, r⟩ => let ⟨o1, o2, e, r⟩ := owns_drop r; ⟨p :: o1, o2, congrArg (p :: ·) e, r⟩
  | _ :: _, _, [], h => h.elim
theorem St0.drop {pre : List (Addr × Cell)} (hf : c.fml = []) (S : St0 G c (pre ++ oc) [] tm h m own fz) : ∃ own2, St0 G c oc [] tm h m own2 fz := by
  obtain ⟨o1, o2, e, r⟩ := owns_drop S.O
  subst e
  have hnd := S.nd
  rw [List.map_append, List.nodup_append] at hnd
  refine ⟨o2, S.F, fun p hp => S.N p ?_, r, hnd.2.1, fun p hp => S.ap p (List.mem_append_right _ hp), S.sub, vs_of hf (fun x hx => nomatch hx), S.tmp⟩
  rw [List.append_assoc]
  exact List.mem_append_right _ hp
theorem sx_ret_drop {st : Stmt} {sl : Slot} {pre : List (Addr × Cell)} (ok : c.FOk G lev) (h1 : Sx G c oc ml st (.ret sl (pre ++ oc1))) : Sx G c oc ml st (.ret sl oc1) := fun tm s Q E hE S k => h1 tm s Q E hE S fun v g t S1 => by
  obtain ⟨m, own, fz, S1⟩ := S1
  obtain ⟨own2, S2⟩ := S1.drop ok.nofml
  exact k v g t ⟨m, own2, fz, S2⟩
/-- an owned list handed on is owned no more -/
theorem St0.freeze {a : Addr} {xs : List PyData} {cl : Cell} {v : Value} (hcl : cl = .lst xs ∨ cl = .lsw xs) (S : St0 G c ((a, cl) :: oc) ml ((v, .own a) :: tm) h m own fz) : ∃ own2 fz2, St0 G c oc ml ((v, .d (.list xs)) :: tm) h m own2 fz2 := by
  obtain ⟨F, N, O, nd, ap, sub, V, tmp⟩ := S
  cases own with
  | nil => exact O.elim
  | cons p own =>
    obtain ⟨b, o⟩ := p
    obtain ⟨e, q, O⟩ := O
    have e : a = b := e
    subst e
    have hs : ∀ p ∈ fz, p ∈ (a, o) :: fz := fun p hp => .tail _ hp
    have hnd := List.nodup_cons.mp nd
    have lst : o.cls = .type "list" ∧ ∃ vs n, o.data = .seq (List.toArray vs) n ∧ RVs G.H0 fz vs xs := by
      rcases hcl with rfl | rfl
      · obtain ⟨vs, n, rfl, r⟩ := q; exact ⟨rfl, vs, n, rfl, r⟩
      · exact q
    obtain ⟨hc, vs, n, hd, r⟩ := lst
    refine ⟨own, (a, o) :: fz, F, fun p hp => N p ?_, O.more hs, hnd.2, ?_, fun x hx => .tail _ (sub x hx), fun el hel x hx => ?_, fun x hx => ?_⟩
    · rcases List.mem_append.mp hp with hp | hp
      · exact List.mem_append_left _ (.tail _ hp)
      · rcases List.mem_cons.mp hp with rfl | hp
        · exact List.mem_append_left _ (.head _)
        · exact List.mem_append_right _ hp
    · intro p hp q hq
      rcases List.mem_cons.mp hq with rfl | hq
      · intro z; exact hnd.1 (List.mem_map.mpr ⟨p, hp, z⟩)
      · exact ap p (.tail _ hp) q hq
    · obtain ⟨w, hw, r'⟩ := V el hel x hx
      refine ⟨w, hw.keep fun b ob hb => ?_, r'.more hs⟩
      rcases List.mem_cons.mp hb with hb | hb
      · rcases hcl with rfl | rfl <;> cases hb
      · exact hb
    · rcases List.mem_cons.mp hx with rfl | hx
      · obtain rfl : v = .ref a := tmp _ (.head _)
        exact RV.list (.inr (.head _)) hc hd (by rw [List.toList_toArray]; exact r.more hs)
      · exact (tmp x (.tail _ hx)).more hs
/-- reading an owned list for good -/
theorem ev_freeze {e : Expr} {a : Addr} {xs : List PyData} {cl : Cell} (hcl : cl = .lst xs ∨ cl = .lsw xs) (h1 : Ev G c oc ml e (.own a) ((a, cl) :: oc1)) : Ev G c oc ml e (.d (.list xs)) oc1 := by
  intro tm s Q E S k
  refine h1 tm s Q E S fun v h' tk' S1 => ?_
  obtain ⟨m, own, fz, S1⟩ := S1
  obtain ⟨own2, fz2, S2⟩ := S1.freeze hcl
  exact k v h' tk' ⟨m, own2, fz2, S2⟩
end
end Mine
end
section
open PySem PySem.W PyProof.Rows PySem.Calls PySem.Spec
namespace Mine
section
variable {G : Glo} {c : Cx} {oc oc1 oc2 oc3 oc' : List (Addr × Cell)} {ml ml1 ml2 ml' : List (Str × Slot)} {tm : List (Value × Slot)} {h h' : Heap} {m : Str → Option Value} {own fz : Led} {lev : Nat} {out : Out}

theorem lookup_mem {α : Type} : ∀ {l : List (Str × α)} {x : Str} {v : α}, (l.map (·.1)).Nodup → (x, v) ∈ l → l.lookup x = some v
  | (y, w) :: r, x, v, hn, hm => by
    rw [List.map_cons, List.nodup_cons] at hn
    rcases List.mem_cons.mp hm with e | hm
    · cases e; rw [List.lookup_cons, beq_self_eq_true]
    · have : (x == y) = false := by
        rw [beq_eq_false_iff_ne]
        intro e
        exact hn.1 (List.mem_map.mpr ⟨(x, v), hm, e⟩)
      rw [List.lookup_cons, this]; exact lookup_mem hn.2 hm
theorem lookup_zip {names : List Str} {vs : List Value} {x : Str} {v : Value} (hn : names.Nodup) (hm : (x, v) ∈ names.zip vs) : (names.zip vs).reverse.lookup x = some v := by
  refine lookup_mem ?_ (List.mem_reverse.mpr hm)
  rw [List.map_reverse]
  refine (List.reverse_perm _).symm.nodup ?_
  have : (names.zip vs).map (·.1) = names.take vs.length := by
    clear hn hm
    induction names generalizing vs with
    | nil => simp
    | cons n r ih => cases vs with
      | nil => simp
      | cons w ws => simp only [List.zip_cons_cons, List.map_cons, List.length_cons, List.take_succ_cons]; exact congrArg (n :: ·) ih
  rw [this]
  exact (List.take_sublist _ _).nodup hn
theorem zip_slot : ∀ {names : List Str} {vs : List Value} {sls : List Slot} {x : Str} {sl : Slot}, vs.length = sls.length → (x, sl) ∈ names.zip sls → ∃ v, (x, v) ∈ names.zip vs ∧ (v, sl) ∈ vs.zip sls
  | n :: ns, v :: vs, s :: ss, x, sl, hl, hm => by
    rcases List.mem_cons.mp hm with e | hm
    · cases e; exact ⟨v, .head _, .head _⟩
    · obtain ⟨w, h1, h2⟩ := zip_slot (by simpa using hl) hm
      exact ⟨w, .tail _ h1, .tail _ h2⟩
  | [], _, _, _, _, _, hm => by simp at hm
  | _ :: _, [], [], _, _, _, hm => by simp at hm
  | _ :: _, [], _ :: _, _, _, hl, _ => by simp at hl
  | _ :: _, _ :: _, [], _, _, hl, _ => by simp at hl

/-- back in the caller: what stood stands, with more known -/
theorem St0.back {own' fz' : Led} (S : St0 G c oc ml tm h m own fz) (F : Fr c.h₀ c.L h' m) (N : News c.h₀ c.L h' (own' ++ fz')) (O : Owns G fz' oc' own') (nd : (own'.map (·.1)).Nodup) (ap : ∀ p ∈ own', ∀ q ∈ fz', p.1 ≠ q.1)
    (sub : ∀ x ∈ fz, x ∈ fz') (raw : ∀ a o, (a, Cell.raw o) ∈ oc → (a, Cell.raw o) ∈ oc') : St0 G c oc' ml tm h' m own' fz' :=
  ⟨F, N, O, nd, ap, fun x hx => sub x (S.sub x hx), fun el hel x hx => let ⟨v, a, r⟩ := S.V el hel x hx; ⟨v, a.keep raw, r.more sub⟩, fun x hx => (S.tmp x hx).more sub⟩

/-- the frame of a def that is called from c -/
noncomputable def Cx.callee (c : Cx) (fz : Led) (g : Heap) (L' : Addr) (env : Env) : Cx := { A₀ := c.A, outer := c.fenv :: c.outer, h₀ := g, L := L', fenv := env, env := env, fz0 := fz }

theorem Cx.Ok.roomA (ok : c.Ok G lev) : c.A.depth < recursionLimit := by
  show c.A₀.depth + 1 < 1000
  have := ok.dep; omega
theorem callee_ok {fz : Led} {g : Heap} {L' : Addr} {env : Env} (ok : c.Ok G (lev + 1)) (B : Below c.A G.H0 (c.fenv :: c.outer) g) (hk : env.scope.kind = .function) (hf : env.frame = some L') (hg : env.globals = mainGlobals) (hb : env.builtins = builtinsNs)
    (hl : env.locals = L') (hc : ∀ x y a, env.cells.lookup x = some a → env.cells.lookup y = some a → x = y) : (c.callee fz g L' env).FOk G lev where
  below := B
  fkind := hk
  kind := hk
  frame := hf
  globals := hg
  builtins := hb
  hand := ok.hand
  dep := by show c.A₀.depth + 1 + lev ≤ 400; have := ok.dep; omega
  units := by show c.A₀.units + 3 + 20 * lev ≤ 2000; have := ok.units; omega
  same := rfl
  nofml := rfl
  locs := hl
  cinj := hc

/-- what a def's call gives, by its body -/
theorem cal_def {name qual : Str} {params : Arguments} {body : List Stmt} {scope : Scope} {dV kV doc pm cdv ct oC : Value} {an od : Option Addr} {osl : Array (Option Value)} {f : Addr} {names : List Str} {sls : List Slot} {sl : Slot}
    (ok : c.Ok G (lev + 1))
    (ho : G.K.lookup f = some ⟨oC, od, .func (fnOf name qual params body scope dV kV doc pm an cdv ct), osl⟩) (hcd : codeIn G.K cdv qual = true)
    (hbind : ∀ (s : Shared) (vs : List Value), vs.length = names.length → BindsTo s (fnOf name qual params body scope dV kV doc pm an cdv ct) ⟨vs, []⟩ (names.zip vs))
    (hn : names.Nodup) (hln : sls.length = names.length) (hloc : ∀ x ∈ names, scope.names.lookup x = some .local)
    (hraw : ∀ a o, (a, Cell.raw o) ∈ oc → (a, Cell.raw o) ∈ oc')
    (hbody : ∀ fz g L', (c.callee fz g L' (envOf qual scope L' f cdv)).FOk G lev → Ex G (c.callee fz g L' (envOf qual scope L' f cdv)) oc (names.zip sls) body (.ret sl oc'))
    (hco : scope.isCoroutine = false := by rfl) (hgen : scope.isGenerator = false := by rfl) (hk : scope.kind = .function := by rfl) (hcell : ∀ x ∈ scope.names, x.2 ≠ .cell := by decide) :
    Cal G c oc ml (.ref f) sls sl oc' := by
  rintro tm s Q E vs hl ⟨m, own, fz, S⟩ k
  have hA : c.A.frames = some (c.fenv :: c.outer) := Around.frames_deeper ok.below.stack
  refine wpAny_call (callX_plain (cl := []) ok.below S.F S.N ((G.T.nolimit.keeps ok.sub)) hA ok.frame ok.fkind ((S.up ok).1 _ _ (G.X _ _ ho)) rfl (codeRec_of (G.X.keeps (S.up ok).1) hcd) ok.roomA
    (hbind s vs (hl.trans hln)) (fun y hy => hloc _ (List.of_mem_zip hy).1) (fun g L' h₁ FG F' N' B' st lt => ?_) hcell hco hgen hk)
  have ok' := callee_ok (fz := fz) (L' := L') (env := envOf qual scope L' f cdv) ok B' hk rfl rfl rfl rfl (fun x y a e _ => by simp [envOf] at e)
  refine hbody fz g L' ok' [] _ _ _ PassesOwn.leaving ⟨_, own, fz, F', N', S.O, S.nd, S.ap, fun x hx => hx, vs_of rfl fun x hx => ?_, fun x hx => nomatch hx⟩ ?_
  · obtain ⟨x, sl⟩ := x
    obtain ⟨v, h1, h2⟩ := zip_slot (hl) hx
    refine ⟨v, .inl ⟨hloc x (List.of_mem_zip hx).1, rfl, lookup_zip hn h1⟩, S.tmp _ (List.mem_append_left _ h2)⟩
  · intro v h' tk' S'
    obtain ⟨m', own', fz', S'⟩ := S'
    refine leaveK_ S'.F S'.N fun F2 N2 => ?_
    refine k v h' tk' ⟨m, own', fz', ?_⟩
    have z := St0.back S F2 N2 S'.O S'.nd S'.ap S'.sub hraw
    exact z.put (fun x hx => List.mem_append_right _ hx) (S'.tmp _ (.head _))
end
end Mine
end
section
open PySem PySem.W PyProof.Rows PySem.Calls PySem.Spec PySem.W.X
set_option maxRecDepth 100000
set_option maxHeartbeats 4000000
namespace Mine
noncomputable def fullA : Around := { handled := none, depth := 405, frames := none, guards := none, units := 2010 }
theorem wpAny_full {α : Type} {M : Model} {A : Around} {t : Sem α} {Q : α → Shared → Prop} {E : Value → Shared → Prop} {s : Shared} (h : wpAny M fullA t Q E s) (hh : A.handled = none) (hd : A.depth ≤ 405) (hu : A.units ≤ 2010) : wpAny M A t Q E s := by
  intro Γ p hΓ
  obtain ⟨h1, h2, h3, h4, h5⟩ := hΓ
  exact h Γ p ⟨h1.trans hh, Nat.le_trans h2 hd, (fun _ q => nomatch q), (fun _ q => nomatch q), Nat.le_trans h5 hu⟩

noncomputable def BadEnd (s : Shared) (x : Str) (tk : Tok) (Q : Value → Shared → Prop) : Prop :=
  ∀ e t dx h' tk' news sl1 n, Mem s.heap h' [] news → (e, (⟨.ref 44, dx, .fields #[.ref t, .none, .none, .none, .bool false, .none], sl1⟩ : Obj)) ∈ news → (t, (⟨.type "tuple", none, .seq #[.str x tk] n, #[]⟩ : Obj)) ∈ news → Q (.ref e) { s with heap := h', toks := tk' }
theorem BadEnd.use {s : Shared} {x : Str} {tk : Tok} {Q : Value → Shared → Prop} (k : BadEnd s x tk Q) {e t : Addr} {dx : Option Addr} {h' : Heap} {tk' : Nat} {news : Led} {sl1 : Array (Option Value)} {n : Nat}
  (a : Mem s.heap h' [] news) (b : (e, (⟨.ref 44, dx, .fields #[.ref t, .none, .none, .none, .bool false, .none], sl1⟩ : Obj)) ∈ news) (c : (t, (⟨.type "tuple", none, .seq #[.str x tk] n, #[]⟩ : Obj)) ∈ news) : Q (.ref e) { s with heap := h', toks := tk' } := k _ _ _ _ _ _ _ _ a b c
noncomputable def argB : Arguments := by
  refine' (?f : (x : Arguments) → fArgs (inCls (stN pg 1) 0) = x → Arguments) _ _
  case f => exact fun x _ => x
  rotate_left
  conv => lhs; whnf
noncomputable def bodyB : List Stmt := by
  refine' (?f : (x : List Stmt) → fBody (inCls (stN pg 1) 0) = x → List Stmt) _ _
  case f => exact fun x _ => x
  rotate_left
  conv => lhs; whnf
noncomputable def scopeB : Scope := by
  refine' (?f : (x : Scope) → fScope (inCls (stN pg 1) 0) = x → Scope) _ _
  case f => exact fun x _ => x
  rotate_left
  conv => lhs; whnf
noncomputable def o26l : Obj := ⟨.none,.none,(.func ⟨s176,s180,argB,(.stmts bodyB),scopeB,0,[],.none,.none,.none,.none,.none,.none,.none,0⟩),⟨[]⟩⟩
noncomputable def o28l : Obj := ⟨(.type "function"),.none,(.func ⟨s176,s180,argB,(.stmts bodyB),scopeB,3,[],.none,.none,.none,(.str s173 187),.none,(.ref 27),.none,0⟩),⟨[]⟩⟩
noncomputable def fragB (P : Params) : Frag := [(0, o0 (plainProg []) P), (1, o1 (plainProg []) P), (2, o2_3 (plainProg []) P), (3, o3_38 (plainProg []) P), (4, o4 (plainProg []) P), (5, o5 (plainProg []) P), (6, o6 (plainProg []) P), (7, o7 (plainProg []) P), (8, o8 (plainProg []) P), (9, o9 (plainProg []) P), (10, o10 (plainProg []) P), (11, o11 (plainProg []) P), (12, o12_38 (plainProg []) P), (13, o13 (plainProg []) P), (14, o14 (plainProg []) P), (15, o15 (plainProg []) P), (22, o22 (plainProg []) P), (23, o23 (plainProg []) P), (24, o24 (plainProg []) P), (25, o25 (plainProg []) P), (26, o26l), (27, o27 (plainProg []) P), (28, o28l), (29, o29 (plainProg []) P), (30, o30 (plainProg []) P), (31, o31 (plainProg []) P), (32, o32 (plainProg []) P), (35, o35 (plainProg []) P), (42, o42 (plainProg []) P), (43, o43 (plainProg []) P), (44, o44 (plainProg []) P)]
theorem mem_of_look {K : Frag} {a : Addr} {o : Obj} : K.lookup a = some o → (a, o) ∈ K := by
  induction K with
  | nil => intro e; cases e
  | cons p r ih =>
    intro e
    obtain ⟨b, x⟩ := p
    rw [List.lookup_cons] at e
    split at e
    · rename_i h
      obtain rfl := beq_iff_eq.mp h
      obtain rfl := Option.some.inj e
      exact .head _
    · exact .tail _ (ih e)
theorem in_sub {B T : Frag} (e : B.map (fun p => T.lookup p.1) = B.map (fun p => some p.2)) {h : Heap} (X : T.In h) : B.In h := fun a o q => X a o (List.map_inj_left.mp e (a, o) (mem_of_look q))
theorem in_B {w : World} {h : Heap} (X : (fragT pg w.params).In h) : (fragB w.params).In h := by
  rw [pE] at X
  exact in_sub (by kernel_rfl) X
local macro_rules | `(tactic| x_close) => `(tactic| (rename BadEnd _ _ _ _ => kk; refine' BadEnd.use kk ?k1 ?k2 ?k3; (case k1 => assumption); (case k2 => (repeat' (first | exact List.Mem.head _ | refine' List.Mem.tail _ ?_))); (case k3 => (repeat' (first | exact List.Mem.head _ | refine' List.Mem.tail _ ?_)))))
theorem mk_bad (p : Program) (w : World) (s : Shared) (x : Str) (tk : Tok) (Q E : Value → Shared → Prop) (X : (fragB w.params).In s.heap) (k : BadEnd s x tk Q) :
  wpAny (model p w) fullA (call (.ref 44) [.str x tk]) Q E s := by
  have z : PySem.Challenge.rw_pp0050_01 = PySem.Challenge.rw_pp0050_01 ∧ fragB = fragB := by (k_fill; exact ⟨rfl, rfl⟩)
  clear z
  x_run
end Mine
end
section
open PySem PySem.W PyProof.Rows PySem.Calls PySem.Spec
set_option maxRecDepth 100000
namespace Mine
open PySem.W.X (Mem)
section
variable {G : Glo} {c : Cx} {oc oc1 oc2 oc3 oc' : List (Addr × Cell)} {ml ml1 ml2 ml' : List (Str × Slot)} {tm : List (Value × Slot)} {h h' : Heap} {m : Str → Option Value} {own fz : Led} {lev : Nat} {out : Out}

structure Glo.Is (G : Glo) : Prop where
  K : G.K = fragT pg G.w.params
  P : G.prog = pg

theorem mem_keeps {h h' : Heap} {news : Led} (M : Mem h h' [] news) : ∀ b o, h.get? b = some o → h'.get? b = some o := fun b o e => M.keep b o e (by simp [PySem.W.X.away])

theorem call_bad {A : Around} {s : Shared} {x : Str} {tk : Tok} {Q E : Value → Shared → Prop} (I : G.Is) (X : G.K.In s.heap) (hh : A.handled = none) (hd : A.depth ≤ 405) (hu : A.units ≤ 2010)
    (k : ∀ e h' tk', Fresh s.heap h' e → Q (.ref e) { s with heap := h', toks := tk' }) : wpAny (model G.prog G.w) A (call (.ref 44) [.str x tk]) Q E s := by
  refine wpAny_full (mk_bad G.prog G.w s x tk Q E (in_B (I.K ▸ X)) fun e t dx h' tk' news sl1 n M he ht => k e h' tk' ?_) hh hd hu
  exact ⟨mem_keeps M, (M.nw _ he).2, t, dx, sl1, _, n, (M.nw _ he).1, (M.nw _ ht).2, (M.nw _ ht).1⟩

theorem looksK {α : Type} (I : G.Is) {t : Sem α} {r : α} (e : peek (fragT pg G.w.params) ⟨pg, G.w.params⟩ t = some r) {A : Around} {s : Shared} {Q : α → Shared → Prop} {E : Value → Shared → Prop} (X : G.K.In s.heap) (q : Q r s) :
    wpAny (model G.prog G.w) A t Q E s := by
  rw [I.P]
  exact (Looks.of_peek (M := model pg G.w) (I.K ▸ X) e).here q

theorem raise_bad {env : Env} {A : Around} {x : Sem Value} {s : Shared} {Q : Flow → Shared → Prop} {E : Value → Shared → Prop} (I : G.Is) (hh : A.handled = none)
    (h : wpAny (model G.prog G.w) A x (fun v s₁ => ∃ h e, G.K.In h ∧ v = .ref e ∧ Fresh h s₁.heap e ∧ E (.ref e) s₁) E s) : wpAny (model G.prog G.w) A (raiseStmt env (some x) none) Q E s := by
  unfold raiseStmt
  refine wpAny_bind (wpAny_mono h (fun v s₁ h₁ => ?_) fun _ _ z => z)
  obtain ⟨h, e, X, rfl, Fz, hE⟩ := h₁
  obtain ⟨t, dx, sl, v, n, he, _, _⟩ := Fz.there
  have X₁ : G.K.In s₁.heap := X.keeps Fz.keeps
  refine wpAny_bind (wpAny_pure ?_)
  have hisT : ∀ {Q : Bool → Shared → Prop} {E : Value → Shared → Prop}, Q false s₁ → wpAny (model G.prog G.w) A (isType (.ref e)) Q E s₁ := fun q => wpAny_bind (wpAny_loadPart he (wpAny_pure q))
  have hty : ∀ {Q : Value → Shared → Prop} {E : Value → Shared → Prop}, Q (.ref 44) s₁ → wpAny (model G.prog G.w) A (typeOf (.ref e)) Q E s₁ := fun q => wpAny_typeOf_ref he q
  refine wpAny_bind (wpAny_holding ?_)
  unfold excFromValue isExcClass
  refine wpAny_bind (wpAny_bind (hisT ?_))
  refine wpAny_pure ?_
  rw [if_neg Bool.false_ne_true]
  unfold isInstance
  refine wpAny_bind (wpAny_bind (hty ?_))
  refine looksK I (r := true) (by kernel_rfl) X₁ ?_
  rw [if_pos rfl]
  refine wpAny_pure ?_
  refine wpAny_bind (hisT ?_)
  dsimp only
  rw [if_neg Bool.false_ne_true]
  unfold raisedInstance
  refine wpAny_bind (wpAny_bind (hty ?_))
  refine wpAny_bind (looksK I (t := typeOf (.ref 44)) (r := .type "type") (by kernel_rfl) X₁ ?_)
  rw [if_pos (show (Value.type "type" == Value.type "type") = true by first | exact beq_self_eq_true _ | decide | rfl)]
  refine wpAny_pure ?_
  unfold setFlight
  refine wpAny_bind (wpAny_bind (wpAny_field he rfl rfl ?_))
  refine wpAny_pure ?_
  exact PySem.wpAny_raiseNew_none hh hE
end
end Mine
end
section
open PySem PySem.W PyProof.Rows PySem.Calls PySem.Spec
namespace Mine
section
variable {G : Glo} {c : Cx} {oc oc1 oc2 oc3 oc' : List (Addr × Cell)} {ml ml1 ml2 ml' : List (Str × Slot)} {tm : List (Value × Slot)} {h h' : Heap} {m : Str → Option Value} {own fz : Led} {lev : Nat} {out : Out}

theorem fr_mem {env : Env} {L b : Addr} {outer : List Env} (hf : env.frame = some L) (hm : b ∈ (env :: outer).filterMap (·.frame)) : b = L ∨ b ∈ outer.filterMap (·.frame) := by
  obtain ⟨en, he, hfb⟩ := List.mem_filterMap.mp hm
  rcases List.mem_cons.mp he with rfl | he
  · rw [hf] at hfb; exact .inl (Option.some.inj hfb).symm
  · exact .inr (List.mem_filterMap.mpr ⟨en, he, hfb⟩)

theorem leave_first {s' : Shared} {e : Addr} {Q : Unit → Shared → Prop} {E : Value → Shared → Prop} {M : Model} (ok : c.Ok G lev) (S : St0 G c oc ml tm h m own fz) (Fz : Fresh h s'.heap e)
    (hQ : ∀ h', RS G.H0 c.h₀ c.outer e (own ++ fz) h' → c.h₀.UpToSlots h' → Q () { s' with heap := h' }) : wpAny M c.A (leaving c.fenv (.ref e)) Q E s' := by
  have K := ok.below
  have K' := pushX K S.F ok.frame ok.fkind
  have F := S.F
  have hin : ∀ env ∈ (c.fenv :: c.outer), ∀ b, env.frame = some b → b ∈ (c.fenv :: c.outer).filterMap (·.frame) := fun env he b hb => List.mem_filterMap.mpr ⟨env, he, hb⟩
  have st : G.H0.StaysIn (hideAll h ((c.fenv :: c.outer).filterMap (·.frame))) := fun b o q => hideAll_get _ (K'.stays b o q) fun hm => by
    rw [(K'.frames.mem hm).1] at q; cases q
  have sg : ∀ b o, c.h₀.get? b = some o → b ∉ c.outer.filterMap (·.frame) → (hideAll h ((c.fenv :: c.outer).filterMap (·.frame))).get? b = some o := fun b o q nm => hideAll_get _ (F.keep b o q) fun hm => by
    rcases fr_mem ok.frame hm with z | z
    · rw [z, kts_self F] at q
      cases q
    · exact nm z
  have hl : ∀ q ∈ own ++ fz, (hideAll h ((c.fenv :: c.outer).filterMap (·.frame))).get? q.1 = some q.2 ∧ c.h₀.get? q.1 = none ∧ G.H0.get? q.1 = none := fun q hq => by
    refine ⟨hideAll_get _ (S.N q hq).1 fun hm => ?_, (S.N q hq).2.2, fresh_of_stays K.stays (S.N q hq).2.2⟩
    obtain ⟨env, he, hf⟩ := List.mem_filterMap.mp hm
    rcases List.mem_cons.mp he with rfl | he
    · rw [ok.frame] at hf
      exact (S.N q hq).2.1 (Option.some.inj hf).symm
    · obtain ⟨o, ho, _⟩ := (K.frames.mem (List.mem_filterMap.mpr ⟨env, he, hf⟩)).2
      rw [(S.N q hq).2.2] at ho; cases ho
  obtain ⟨t, dx, sl, v, n, he, _, _⟩ := Fz.there
  have hen : (hideAll h ((c.fenv :: c.outer).filterMap (·.frame))).get? e = none := by
    cases q : (hideAll h ((c.fenv :: c.outer).filterMap (·.frame))).get? e with
    | none => rfl
    | some o => have := of_hideAll _ q; rw [Fz.new] at this; cases this
  refine wpAny_leaving_firstW (a0 := .ref t) K'.stack ((funFrames_hide K'.frames hin).of_keeps fun b o hb _ => ⟨o, Fz.keeps b o hb, rfl⟩) ok.frame he (fun b o hb => Fz.keeps b o (of_hideAll _ hb)) hen rfl rfl rfl fun h' hL => ?_
  obtain ⟨k1, ⟨_, _, k2⟩, k3, k4⟩ := hL
  exact hQ h' ⟨_, _, st, sg, hl, k1, hen, k2, k3⟩ (((Heap.UpToSlots.of_keeps F.keep).trans (Heap.UpToSlots.of_keeps Fz.keeps)).trans k4)

theorem leave_next {s' : Shared} {e : Addr} {Q : Unit → Shared → Prop} {E : Value → Shared → Prop} {M : Model} {g : Heap} (ok : c.Ok G lev) (X : Exc0 G c oc ml e s'.heap g m own fz)
    (hQ : ∀ h', RS G.H0 c.h₀ c.outer e (own ++ fz) h' → c.h₀.UpToSlots h' → Q () { s' with heap := h' }) : wpAny M c.A (leaving c.fenv (.ref e)) Q E s' := by
  have K := ok.below
  obtain ⟨B, a0, hB, hBG, hl, hfl⟩ := X.R
  have F := X.F
  refine wpAny_leaves_onW (Around.frames_deeper K.stack) ok.frame hfl fun h' x1 x2 => hQ h' ⟨B, a0, hB, fun b o q nm => hBG b o (F.keep b o q) (fun hm => ?_), fun q hq => ⟨(hl q hq).1, kts_none F.keep (hl q hq).2.1, (hl q hq).2.2⟩, x1⟩ ((Heap.UpToSlots.of_keeps F.keep).trans (X.up.trans x2))
  rcases fr_mem ok.frame hm with z | z
  · rw [z, kts_self F] at q
    cases q
  · exact nm z

/-- an exception leaves the frame -/
theorem leave_exc {s' : Shared} {e : Addr} {Q : Unit → Shared → Prop} {E : Value → Shared → Prop} {M : Model} (ok : c.Ok G lev) (X : InExc G c oc ml e s'.heap)
    (hQ : ∀ h' own fz, RS G.H0 c.h₀ c.outer e (own ++ fz) h' → c.h₀.UpToSlots h' → Owns G fz oc own → (own.map (·.1)).Nodup → (∀ p ∈ own, ∀ q ∈ fz, p.1 ≠ q.1) → (∀ x ∈ c.fz0, x ∈ fz) → Q () { s' with heap := h' }) : wpAny M c.A (leaving c.fenv (.ref e)) Q E s' := by
  rcases X with ⟨h, m, own, fz, S, Fz⟩ | ⟨g, m, own, fz, X⟩
  · exact leave_first ok S Fz fun h' a b => hQ h' own fz a b S.O S.nd S.ap S.sub
  · exact leave_next ok X fun h' a b => hQ h' own fz a b X.O X.nd X.ap X.sub

/-- an exception has come out of a call -/
noncomputable def OutExc (G : Glo) (c : Cx) (oc : List (Addr × Cell)) (ml : List (Str × Slot)) (e : Addr) (h' : Heap) : Prop := ∃ g m own fz, Exc0 G c oc ml e h' g m own fz
/-- what a call that raises gives -/
noncomputable def CalX (G : Glo) (c : Cx) (oc : List (Addr × Cell)) (ml : List (Str × Slot)) (f : Value) (sls : List Slot) (oc' : List (Addr × Cell)) : Prop :=
  ∀ (tm : List (Value × Slot)) (s : Shared) (Q : Value → Shared → Prop) (E : Value → Shared → Prop) (vs : List Value), vs.length = sls.length → St G c oc ml (vs.zip sls ++ tm) s.heap →
    (∀ e h' tk', OutExc G c oc' ml e h' → E (.ref e) { s with heap := h', toks := tk' }) → wpAny (model G.prog G.w) c.A (call f vs) Q E s
/-- an expression that raises -/
noncomputable def EvX (G : Glo) (c : Cx) (oc : List (Addr × Cell)) (ml : List (Str × Slot)) (e : Expr) (oc' : List (Addr × Cell)) : Prop :=
  ∀ (tm : List (Value × Slot)) (s : Shared) (Q : Value → Shared → Prop) (E : Value → Shared → Prop), St G c oc ml tm s.heap →
    (∀ e h' tk', OutExc G c oc' ml e h' → E (.ref e) { s with heap := h', toks := tk' }) → wpAny (model G.prog G.w) c.A (eval e c.env) Q E s

theorem ev_calldX {x : Str} {p pos : Pos} {e : Expr} {es : List Expr} {f : Addr} {o : Obj} {fd : FuncData} {sls : List Slot} (ok : c.Ok G lev) (h0 : Ev G c oc ml (.Name x p) (.raw (.ref f)) oc) (hl : G.K.lookup f = some o) (hd : o.data = .func fd)
    (h1 : EvL G c oc ml (e :: es) sls oc1) (h2 : CalX G c oc1 ml (.ref f) sls oc2) (he : starEach (e :: es) c.env = (false, eval e c.env) :: starEach es c.env := by rfl) : EvX G c oc ml (.Call (.Name x p) (e :: es) [] pos) oc2 := by
  intro tm s Q E S k
  refine Call_ (h0 tm s _ E S fun v g t S1 => ?_)
  obtain rfl : v = .ref f := by obtain ⟨_, _, _, S1⟩ := S1; exact S1.tmp _ (.head _)
  refine callWith_def (o := o) (fd := fd) hd (h1 pos tm _ _ E (S1.tms sub1) fun vs g2 t2 hln S2 => ⟨?_, h2 tm _ Q E vs hln S2 k⟩) he
  obtain ⟨m, own, fz, S2⟩ := S2
  exact (S2.up ok).1 _ _ (G.X _ _ hl)
theorem sx_expr_x {e : Expr} {pos : Pos} (h1 : EvX G c oc ml e oc1) (hi : interactive c.env = false := by rfl) (hs : swapsWith e none pos.line c.env = pure false := by rfl) : Sx G c oc ml (.Expr e pos) (.exc oc1 ml) := by
  intro tm s Q E hE S k
  exact wpAny_Expr_any (h1 tm s _ E S fun e g t S1 => k e g t (.inr S1)) hi hs
theorem sx_assign_x {x : Str} {p pos : Pos} {e : Expr} (h1 : EvX G c oc ml e oc1) (hs : swapsWith e (some (.Name x p)) pos.line c.env = pure false := by rfl) : Sx G c oc ml (.Assign [.Name x p] e pos) (.exc oc1 ml) := by
  intro tm s Q E hE S k
  exact wpAny_Assign_Name (h1 tm s _ E S fun e g t S1 => k e g t (.inr S1)) hs

/-- what a def's call gives that raises, by its body -/
theorem cal_defX {name qual : Str} {params : Arguments} {body : List Stmt} {scope : Scope} {dV kV doc pm cdv ct oC : Value} {an od : Option Addr} {osl : Array (Option Value)} {f : Addr} {names : List Str} {sls : List Slot}
    (ok : c.Ok G (lev + 1))
    (ho : G.K.lookup f = some ⟨oC, od, .func (fnOf name qual params body scope dV kV doc pm an cdv ct), osl⟩) (hcd : codeIn G.K cdv qual = true)
    (hbind : ∀ (s : Shared) (vs : List Value), vs.length = names.length → BindsTo s (fnOf name qual params body scope dV kV doc pm an cdv ct) ⟨vs, []⟩ (names.zip vs))
    (hn : names.Nodup) (hln : sls.length = names.length) (hloc : ∀ x ∈ names, scope.names.lookup x = some .local)
    (hraw : ∀ a o, (a, Cell.raw o) ∈ oc → (a, Cell.raw o) ∈ oc')
    (hbody : ∀ fz g L', (c.callee fz g L' (envOf qual scope L' f cdv)).FOk G lev → ∃ pre ml', Ex G (c.callee fz g L' (envOf qual scope L' f cdv)) oc (names.zip sls) body (.exc (pre ++ oc') ml'))
    (hco : scope.isCoroutine = false := by rfl) (hgen : scope.isGenerator = false := by rfl) (hk : scope.kind = .function := by rfl) (hcell : ∀ x ∈ scope.names, x.2 ≠ .cell := by decide) :
    CalX G c oc ml (.ref f) sls oc' := by
  rintro tm s Q E vs hl ⟨m, own, fz, S⟩ k
  have hA : c.A.frames = some (c.fenv :: c.outer) := Around.frames_deeper ok.below.stack
  refine wpAny_call (callX_plain (cl := []) ok.below S.F S.N ((G.T.nolimit.keeps ok.sub)) hA ok.frame ok.fkind ((S.up ok).1 _ _ (G.X _ _ ho)) rfl (codeRec_of (G.X.keeps (S.up ok).1) hcd) ok.roomA
    (hbind s vs (hl.trans hln)) (fun y hy => hloc _ (List.of_mem_zip hy).1) (fun g L' h₁ FG F' N' B' st lt => ?_) hcell hco hgen hk)
  have ok' := callee_ok (fz := fz) (L' := L') (env := envOf qual scope L' f cdv) ok B' hk rfl rfl rfl rfl (fun x y a e _ => by simp [envOf] at e)
  obtain ⟨pre, mlx, hbody⟩ := hbody fz g L' ok'
  refine hbody [] _ _ _ PassesOwn.leaving ⟨_, own, fz, F', N', S.O, S.nd, S.ap, fun x hx => hx, vs_of rfl fun x hx => ?_, fun x hx => nomatch hx⟩ ?_
  · obtain ⟨x, sl⟩ := x
    obtain ⟨v, h1, h2⟩ := zip_slot (hl) hx
    refine ⟨v, .inl ⟨hloc x (List.of_mem_zip hx).1, rfl, lookup_zip hn h1⟩, S.tmp _ (List.mem_append_left _ h2)⟩
  · intro e h' tk' X
    refine leave_exc (c := c.callee fz g L' (envOf qual scope L' f cdv)) ok'.toOk X fun h2 own' fz' R up O nd ap sub => ?_
    obtain ⟨o1, o2, e12, O2⟩ := owns_drop O
    subst e12
    refine k e h2 tk' (⟨g, m, o2, fz', FG, ?_, up, O2, ?_, fun p hp => ap p (List.mem_append_right _ hp), fun x hx => sub _ (S.sub x hx), fun x hx => by
      obtain ⟨v, a, r⟩ := S.V1 x hx
      exact ⟨v, a.keep hraw, r.more sub⟩⟩)
    · obtain ⟨B, a0, x1, x2, x3, x4⟩ := R
      exact ⟨B, a0, x1, x2, fun q hq => x3 q (by rw [List.append_assoc]; exact List.mem_append_right _ hq), x4⟩
    · rw [List.map_append, List.nodup_append] at nd; exact nd.2.1
end
end Mine
end
section
open PySem PySem.W PyProof.Rows PySem.Calls PySem.Spec
open PyProof.Rows.LCg (NsObj ns_obj)
namespace Mine
section
variable {G : Glo} {c : Cx} {oc oc1 oc2 oc3 oc' : List (Addr × Cell)} {ml ml1 ml2 ml' : List (Str × Slot)} {tm : List (Value × Slot)} {h h' : Heap} {m : Str → Option Value} {own fz : Led} {lev : Nat} {out : Out}

noncomputable def Plain (o : Obj) : Prop := ∃ vs, o.data = .fields vs
theorem Plain.ns {o : Obj} {m : Str → Option Value} (p : Plain o) (n : NsObj o m) : False := by
  obtain ⟨vs, e⟩ := p
  obtain ⟨es, ep, hd, _⟩ := n
  rw [e] at hd; cases hd
theorem Plain.cell {o : Obj} {v : Option Value} (p : Plain o) (n : o.data = .cell v) : False := by
  obtain ⟨vs, e⟩ := p
  rw [e] at n; cases n
/-- the cell is no name's place -/
noncomputable def Quiet (cl : Cell) : Prop := ∀ o, cl = .raw o → Plain o

theorem VarAt.less {env : Env} {L : Addr} {x : Str} {v : Value} {cl : Cell} {a : Addr} {pre post : List (Addr × Cell)} (q : Quiet cl) (r : VarAt env L m (pre ++ (a, cl) :: post) x v) : VarAt env L m (pre ++ post) x v := by
  have key : ∀ b ob, (b, Cell.raw ob) ∈ pre ++ (a, cl) :: post → ¬ Plain ob → (b, Cell.raw ob) ∈ pre ++ post := fun b ob hb hn => by
    rcases List.mem_append.mp hb with hb | hb
    · exact List.mem_append_left _ hb
    · rcases List.mem_cons.mp hb with hb | hb
      · cases hb; exact absurd (q _ rfl) hn
      · exact List.mem_append_right _ hb
  rcases r with r | ⟨k, oC, m₂, hm, hn, r⟩ | ⟨k, b, ob, hl, hm, r⟩
  · exact .inl r
  · exact .inr (.inl ⟨k, oC, m₂, key _ _ hm fun p => p.ns hn, hn, r⟩)
  · exact .inr (.inr ⟨k, b, ob, hl, key _ _ hm fun p => p.cell r, r⟩)
theorem VarAt.more {env : Env} {L : Addr} {x : Str} {v : Value} {cl : Cell} {a : Addr} {pre post : List (Addr × Cell)} (r : VarAt env L m (pre ++ post) x v) : VarAt env L m (pre ++ (a, cl) :: post) x v :=
  r.keep fun b ob hb => by
    rcases List.mem_append.mp hb with hb | hb
    · exact List.mem_append_left _ hb
    · exact List.mem_append_right _ (.tail _ hb)

/-- one owned object is another now -/
theorem St0.setV {pre post : List (Addr × Cell)} {a : Addr} {cl : Cell} (S : St0 G c (pre ++ (a, cl) :: post) ml tm h m own fz) (hq : ∀ el ∈ [(c.env, ml), (c.fenv, c.fml)], ∀ x ∈ el.2, ∀ v, VarAt el.1 c.L m (pre ++ (a, cl) :: post) x.1 v → VarAt el.1 c.L m (pre ++ post) x.1 v) :
    ∃ o, h.get? a = some o ∧ CellObj G fz o cl ∧ ∀ (cl' : Cell) (h' : Heap) o', (∀ b ob, b ≠ a → h.get? b = some ob → h'.get? b = some ob) → h'.get? a = some o' → CellObj G fz o' cl' → ∃ own', St0 G c (pre ++ (a, cl') :: post) ml tm h' m own' fz := by
  obtain ⟨own1, o, own2, e, qo, kk⟩ := owns_split S.O
  subst e
  have hmem := S.N (a, o) (List.mem_append_left _ (List.mem_append_right _ (.head _)))
  have hnd := S.nd
  have n1 : ∀ p ∈ own1, p.1 ≠ a := fun p hp e => by
    rw [List.map_append, List.map_cons, List.nodup_append] at hnd
    exact hnd.2.2 p.1 (List.mem_map_of_mem hp) a (.head _) e
  have n2 : ∀ p ∈ own2, p.1 ≠ a := fun p hp e => by
    rw [List.map_append, List.map_cons, List.nodup_append] at hnd
    exact (List.nodup_cons.mp hnd.2.1).1 (List.mem_map.mpr ⟨p, hp, e⟩)
  have n3 : ∀ p ∈ fz, p.1 ≠ a := fun p hp e => S.ap (a, o) (List.mem_append_right _ (.head _)) p hp e.symm
  refine ⟨o, hmem.1, qo, fun cl' h' o' hk ho' q' => ⟨own1 ++ (a, o') :: own2, ?_, ?_, kk o' cl' q', ?_, ?_, S.sub, fun el hel x hx => ?_, S.tmp⟩⟩
  · exact PyProof.Rows.LCg.fr_but S.F (fun b ob hb => hk b ob (by simpa using hb)) (fun z => hmem.2.1 z.symm) hmem.2.2
  · intro p hp
    rcases List.mem_append.mp hp with hp | hp
    · rcases List.mem_append.mp hp with hp | hp
      · have z := S.N p (List.mem_append_left _ (List.mem_append_left _ hp))
        exact ⟨hk _ _ (n1 p hp) z.1, z.2⟩
      · rcases List.mem_cons.mp hp with rfl | hp
        · exact ⟨ho', hmem.2⟩
        · have z := S.N p (List.mem_append_left _ (List.mem_append_right _ (.tail _ hp)))
          exact ⟨hk _ _ (n2 p hp) z.1, z.2⟩
    · have z := S.N p (List.mem_append_right _ hp)
      exact ⟨hk _ _ (n3 p hp) z.1, z.2⟩
  · rw [List.map_append, List.map_cons] at hnd ⊢; exact hnd
  · intro p hp q hq
    rcases List.mem_append.mp hp with hp | hp
    · exact S.ap p (List.mem_append_left _ hp) q hq
    · rcases List.mem_cons.mp hp with rfl | hp
      · exact S.ap (a, o) (List.mem_append_right _ (.head _)) q hq
      · exact S.ap p (List.mem_append_right _ (.tail _ hp)) q hq
  · obtain ⟨v, hv, r⟩ := S.V el hel x hx
    exact ⟨v, (hq el hel x hx v hv).more, r⟩

theorem St0.set {pre post : List (Addr × Cell)} {a : Addr} {cl : Cell} (S : St0 G c (pre ++ (a, cl) :: post) ml tm h m own fz) (q : Quiet cl) :
    ∃ o, h.get? a = some o ∧ CellObj G fz o cl ∧ ∀ (cl' : Cell) (h' : Heap) o', (∀ b ob, b ≠ a → h.get? b = some ob → h'.get? b = some ob) → h'.get? a = some o' → CellObj G fz o' cl' → ∃ own', St0 G c (pre ++ (a, cl') :: post) ml tm h' m own' fz := S.setV fun _ _ _ _ _ hv => VarAt.less q hv
theorem owns_less : ∀ {pre post : List (Addr × Cell)} {own : Led} {a : Addr} {cl : Cell}, Owns G fz (pre ++ (a, cl) :: post) own →
    ∃ own1 o own2, own = own1 ++ (a, o) :: own2 ∧ Owns G fz (pre ++ post) (own1 ++ own2)
  | [], post, (b, o) :: r, a, cl, ⟨e, q, rs⟩ => by subst e; exact ⟨[], o, r, rfl, rs⟩
  | (b, cb) :: pre, post, (b', o') :: r, a, cl, ⟨e, q, rs⟩ => by
    obtain ⟨own1, o, own2, e2, k⟩ := owns_less rs
    subst e2
    exact ⟨(b', o') :: own1, o, own2, rfl, e, q, k⟩
  | [], _, [], _, _, h => h.elim
  | _ :: _, _, [], _, _, h => h.elim
/-- what no name needs is let go -/
theorem St0.lessV {pre post : List (Addr × Cell)} {a : Addr} {cl : Cell} (S : St0 G c (pre ++ (a, cl) :: post) ml tm h m own fz) (hq : ∀ el ∈ [(c.env, ml), (c.fenv, c.fml)], ∀ x ∈ el.2, ∀ v, VarAt el.1 c.L m (pre ++ (a, cl) :: post) x.1 v → VarAt el.1 c.L m (pre ++ post) x.1 v) (hk : ∀ b ob, b ≠ a → h.get? b = some ob → h'.get? b = some ob) : ∃ own', St0 G c (pre ++ post) ml tm h' m own' fz := by
  obtain ⟨own1, o, own2, e, O2⟩ := owns_less S.O
  subst e
  have hmem := S.N (a, o) (List.mem_append_left _ (List.mem_append_right _ (.head _)))
  have hnd := S.nd
  have n1 : ∀ p ∈ own1, p.1 ≠ a := fun p hp e => by
    rw [List.map_append, List.map_cons, List.nodup_append] at hnd
    exact hnd.2.2 p.1 (List.mem_map_of_mem hp) a (.head _) e
  have n2 : ∀ p ∈ own2, p.1 ≠ a := fun p hp e => by
    rw [List.map_append, List.map_cons, List.nodup_append] at hnd
    exact (List.nodup_cons.mp hnd.2.1).1 (List.mem_map.mpr ⟨p, hp, e⟩)
  have n3 : ∀ p ∈ fz, p.1 ≠ a := fun p hp e => S.ap (a, o) (List.mem_append_right _ (.head _)) p hp e.symm
  have up : ∀ p ∈ own1 ++ own2, p ∈ own1 ++ (a, o) :: own2 ∧ p.1 ≠ a := fun p hp => by
    rcases List.mem_append.mp hp with hp | hp
    · exact ⟨List.mem_append_left _ hp, n1 p hp⟩
    · exact ⟨List.mem_append_right _ (.tail _ hp), n2 p hp⟩
  refine ⟨own1 ++ own2, ?_, ?_, O2, ?_, fun p hp => S.ap p (up p hp).1, S.sub, fun el hel x hx => ?_, S.tmp⟩
  · exact PyProof.Rows.LCg.fr_but S.F (fun b ob hb => hk b ob (by simpa using hb)) (fun z => hmem.2.1 z.symm) hmem.2.2
  · intro p hp
    rcases List.mem_append.mp hp with hp | hp
    · have z := S.N p (List.mem_append_left _ (up p hp).1)
      exact ⟨hk _ _ (up p hp).2 z.1, z.2⟩
    · have z := S.N p (List.mem_append_right _ hp)
      exact ⟨hk _ _ (n3 p hp) z.1, z.2⟩
  · rw [List.map_append, List.map_cons] at hnd
    rw [List.map_append]
    exact List.Nodup.sublist (List.Sublist.append (.refl _) (List.sublist_cons_self _ _)) hnd
  · obtain ⟨v, hv, r⟩ := S.V el hel x hx
    exact ⟨v, hq el hel x hx v hv, r⟩

theorem St0.less {pre post : List (Addr × Cell)} {a : Addr} {cl : Cell} (S : St0 G c (pre ++ (a, cl) :: post) ml tm h m own fz) (q : Quiet cl) (hk : ∀ b ob, b ≠ a → h.get? b = some ob → h'.get? b = some ob) : ∃ own', St0 G c (pre ++ post) ml tm h' m own' fz := S.lessV (fun _ _ _ _ _ hv => VarAt.less q hv) hk

theorem RS.less {base g : Heap} {l : List Env} {e : Addr} {news news' : Led} {h : Heap} (R : RS base g l e news h) (hs : ∀ p ∈ news', p ∈ news) : RS base g l e news' h :=
  let ⟨B, a0, x1, x2, x3, x4⟩ := R; ⟨B, a0, x1, x2, fun q hq => x3 q (hs q hq), x4⟩
theorem InExc.less {pre post : List (Addr × Cell)} {a e : Addr} {cl : Cell} (X : InExc G c (pre ++ (a, cl) :: post) ml e h') (q : Quiet cl) : InExc G c (pre ++ post) ml e h' := by
  rcases X with ⟨h, m, own, fz, S, Fz⟩ | ⟨g, m, own, fz, X⟩
  · obtain ⟨own', S'⟩ := S.less (h' := h) q (fun _ _ _ e => e)
    exact .inl ⟨h, m, own', fz, S', Fz⟩
  · obtain ⟨own1, o, own2, e2, O2⟩ := owns_less X.O
    subst e2
    have up : ∀ p ∈ own1 ++ own2, p ∈ own1 ++ (a, o) :: own2 := fun p hp => by
      rcases List.mem_append.mp hp with hp | hp
      · exact List.mem_append_left _ hp
      · exact List.mem_append_right _ (.tail _ hp)
    refine .inr ⟨g, m, own1 ++ own2, fz, X.F, X.R.less fun p hp => ?_, X.up, O2, ?_, fun p hp => X.ap p (up p hp), X.sub, fun x hx => ?_⟩
    · rcases List.mem_append.mp hp with hp | hp
      · exact List.mem_append_left _ (up p hp)
      · exact List.mem_append_right _ hp
    · have hnd := X.nd
      rw [List.map_append, List.map_cons] at hnd
      rw [List.map_append]
      exact List.Nodup.sublist (List.Sublist.append (.refl _) (List.sublist_cons_self _ _)) hnd
    · obtain ⟨v, hv, r⟩ := X.V x hx
      exact ⟨v, VarAt.less q hv, r⟩

theorem letGo_fld {prog : Program} {w : World} {A : Around} {E : Value → Shared → Prop} {target : Expr} {I : Addr} {o : Obj} {v : Value} {Q' : Unit → Shared → Prop} {s' : Shared} {T : String} (ho : s'.heap.get? I = some o) (hc : o.cls = .type T) (hn : ["enumerate", "zip", "dict_itemiterator", "dict_reverseitemiterator", "odict_iterator", "itertools.zip_longest", "itertools.pairwise"].contains T = false) (h : Q' () s') :
    wpAny (model prog w) A (letOwnedTupleGo target (.ref I) v) Q' E s' := by
  unfold letOwnedTupleGo
  cases target <;> first
    | exact wpAny_pure h
    | (cases v <;> first
        | exact wpAny_pure h
        | (refine wpAny_bind (wpAny_load ho ?_)
           rw [hc]
           split
           · rename_i h1 _
             cases h1
             rw [hn]
             exact wpAny_pure h
           · exact wpAny_pure h))
section
variable {prog : Program} {w : World} {A : Around} {s : Shared}
theorem codeAny_forLoopG {R : Result → Shared → Prop} {target it body orelse env} (I : Nat → Shared → Prop)
    (turn : ∀ n s, I n s → wpAny (model prog w) A (pyNext it) (fun r s₁ => match r with
      | none => wpAny (model prog w) A (execs orelse env) (fun f s₃ => R (.ok f) s₃) (notedBy (model prog w) A env fun e s' => R (.error e) s') s₁
      | some v => wpAny (model prog w) A (letOwnedTupleGo target it v) (fun _ s₁ => wpAny (model prog w) A (assign target env v) (fun _ s₂ => wpAny (model prog w) A (execs body env) (fun f s₃ => match f with
          | .next | .cont => ∃ m, m < n ∧ I m s₃
          | .brk => R (.ok .next) s₃
          | .ret v => R (.ok (.ret v)) s₃) (notedBy (model prog w) A env fun e s' => R (.error e) s') s₂) (notedBy (model prog w) A env fun e s' => R (.error e) s') s₁) (notedBy (model prog w) A env fun e s' => R (.error e) s') s₁) (notedBy (model prog w) A env fun e s' => R (.error e) s') s)
    (n : Nat) (h : I n s) : codeAny (model prog w) A (.forLoop target it body orelse env) R s := by
  refine codeAny_loop' rfl I (fun n s hI => ?_) n h
  show wpAny _ _ ((forTurn target it body orelse env).onRaise (fun x => do noteFrame x env; theTreesLotGoes x)) _ _ s
  refine wpAny_noted ?_
  simp only [forTurn]
  refine wpAny_bind (wpAny_standAt (wpAny_bind (wpAny_onRaise (wpAny_mono (turn n s hI) (fun r s₁ h₁ => ?_) fun _ _ h' => wpAny_standAt h'))))
  cases r with
  | none => exact wpAny_pure (.inr ⟨rfl, codeAny_block h₁⟩)
  | some v =>
    refine wpAny_bind (wpAny_mono h₁ (fun _ s₁ h₁ => ?_) fun _ _ h' => h')
    refine wpAny_bind (wpAny_mono h₁ (fun _ s₂ h₂ => wpAny_bind (wpAny_mono h₂ (fun f s₃ h₃ => ?_) fun _ _ h' => h')) fun _ _ h' => h')
    cases f with
    | next => exact wpAny_pure (.inl ⟨rfl, h₃⟩)
    | cont => exact wpAny_pure (.inl ⟨rfl, h₃⟩)
    | brk => exact wpAny_pure h₃
    | ret v => exact wpAny_pure h₃
end

noncomputable def Cx.wE (c : Cx) (env : Env) (fml : List (Str × Slot)) : Cx := { c with env := env, fml := fml }
/-- an iterator of n items -/
structure Iters (G : Glo) (c : Cx) (base : List (Value × Slot)) (n : Nat) (elt : Nat → Slot) (It : Nat → Obj → Prop) (I : Addr) : Prop where
  plain : ∀ i o, It i o → Plain o
  next : ∀ {env : Env} {fml : List (Str × Slot)} {oc : List (Addr × Cell)} {ml : List (Str × Slot)} {tm : List (Value × Slot)} {s : Shared} {Q : Option Value → Shared → Prop} {E : Value → Shared → Prop} {i : Nat} {o : Obj}, i < n → It i o → St G (c.wE env fml) (oc ++ [(I, .raw o)]) ml (base ++ tm) s.heap →
    (∀ v o' h' tk', It (i + 1) o' → St G (c.wE env fml) (oc ++ [(I, .raw o')]) ml ((v, elt i) :: (base ++ tm)) h' → Q (some v) { s with heap := h', toks := tk' }) → wpAny (model G.prog G.w) c.A (pyNext (.ref I)) Q E s
  self : ∀ {i : Nat} {o : Obj} {s : Shared} {Q : Value → Shared → Prop} {E : Value → Shared → Prop}, It i o → s.heap.get? I = some o → Q (.ref I) s → wpAny (model G.prog G.w) c.A (pyIter (.ref I)) Q E s
  letgo : ∀ {i : Nat} {o : Obj} {s : Shared} {Q : Unit → Shared → Prop} {E : Value → Shared → Prop} {t : Expr} {v : Value}, It i o → s.heap.get? I = some o → Q () s → wpAny (model G.prog G.w) c.A (letOwnedTupleGo t (.ref I) v) Q E s
  done : ∀ {env : Env} {fml : List (Str × Slot)} {oc : List (Addr × Cell)} {ml : List (Str × Slot)} {tm : List (Value × Slot)} {s : Shared} {Q : Option Value → Shared → Prop} {E : Value → Shared → Prop} {o : Obj}, It n o → St G (c.wE env fml) (oc ++ [(I, .raw o)]) ml (base ++ tm) s.heap →
    (∀ h' tk', St G (c.wE env fml) oc ml (base ++ tm) h' → Q none { s with heap := h', toks := tk' }) → wpAny (model G.prog G.w) c.A (pyNext (.ref I)) Q E s

/-- an expression whose items are walked -/
noncomputable def ItE (G : Glo) (c : Cx) (oc : List (Addr × Cell)) (ml : List (Str × Slot)) (e : Expr) (n : Nat) (elt : Nat → Slot) (oc' : List (Addr × Cell)) : Prop :=
  ∀ (tm : List (Value × Slot)) (s : Shared) (Q : Value → Shared → Prop) (E : Value → Shared → Prop), St G c oc ml tm s.heap →
    (∀ I o base It h' tk', Iters G c base n elt It I → It 0 o → St G c (oc' ++ [(I, .raw o)]) ml (base ++ tm) h' → Q (.ref I) { s with heap := h', toks := tk' }) →
    wpAny (model G.prog G.w) c.A (eval e c.env) (fun xv s₁ => wpAny (model G.prog G.w) c.A (pyIter xv) Q E s₁) E s

theorem quiet_raw {o : Obj} (p : Plain o) : Quiet (.raw o) := fun o' e => by cases e; exact p
theorem owns_snoc {a : Addr} {o : Obj} {cl : Cell} (q : CellObj G fz o cl) : ∀ {oc : List (Addr × Cell)} {own : Led}, Owns G fz oc own → Owns G fz (oc ++ [(a, cl)]) (own ++ [(a, o)])
  | [], [], _ => ⟨rfl, q, trivial⟩
  | _ :: _, _ :: _, ⟨x, y, z⟩ => ⟨x, y, owns_snoc q z⟩
  | [], _ :: _, h => h.elim
  | _ :: _, [], h => h.elim
theorem St0.newAt (S : St0 G c oc ml tm h m own fz) {a : Addr} {o : Obj} {cl : Cell} (hk : ∀ b ob, h.get? b = some ob → h'.get? b = some ob) (hn : h.get? a = none) (ho : h'.get? a = some o) (q : CellObj G fz o cl) : ∃ own', St0 G c (oc ++ [(a, cl)]) ml tm h' m own' fz := by
  have lt : ∀ p ∈ own ++ fz, p.1 ≠ a := fun p hp e => by have := (S.N p hp).1; rw [e, hn] at this; cases this
  refine ⟨own ++ [(a, o)], S.F.keeps hk, ?_, owns_snoc q S.O, ?_, ?_, S.sub, fun el hel x hx => ?_, S.tmp⟩
  · intro p hp
    have old : ∀ p ∈ own ++ fz, _ := fun p hp => (⟨hk _ _ (S.N p hp).1, (S.N p hp).2⟩ : h'.get? p.1 = some p.2 ∧ p.1 ≠ c.L ∧ c.h₀.get? p.1 = none)
    rcases List.mem_append.mp hp with hp | hp
    · rcases List.mem_append.mp hp with hp | hp
      · exact old p (List.mem_append_left _ hp)
      · rw [List.mem_singleton.mp hp]
        refine ⟨ho, fun e => ?_, kts_none S.F.keep hn⟩
        obtain ⟨oL, _, _, hL, _⟩ := S.F.ns
        have e : a = c.L := e
        rw [← e, hn] at hL; cases hL
    · exact old p (List.mem_append_right _ hp)
  · rw [List.map_append, List.nodup_append]
    refine ⟨S.nd, by simp, fun x hx y hy => ?_⟩
    obtain ⟨p, hp, rfl⟩ := List.mem_map.mp hx
    simp only [List.map_cons, List.map_nil, List.mem_singleton] at hy
    subst hy
    exact lt p (List.mem_append_left _ hp)
  · intro p hp q hq
    rcases List.mem_append.mp hp with hp | hp
    · exact S.ap p hp q hq
    · rw [List.mem_singleton.mp hp]; exact fun e => lt q (List.mem_append_right _ hq) e.symm
  · obtain ⟨v, hv, r⟩ := S.V el hel x hx
    exact ⟨v, hv.keep fun a ob e => List.mem_append_left _ e, r⟩
theorem St0.newCell (S : St0 G c oc ml tm h m own fz) (o : Obj) (hfree : o.isFreed = false := by rfl) : ∃ own', St0 G c (oc ++ [(h.objs.size, .raw o)]) ml tm (h.push o) m own' fz :=
  S.newAt (fun b ob e => Heap.get?_push_of_some _ e) (size_none h) (Heap.get?_push_size _ hfree) rfl
theorem owns_perm {oc oc' : List (Addr × Cell)} (p : oc.Perm oc') : ∀ {own : Led}, Owns G fz oc own → ∃ own', Owns G fz oc' own' ∧ own.Perm own' := by
  induction p with
  | nil => exact fun {own} h => ⟨own, h, .refl _⟩
  | cons x p ih =>
    intro own h
    cases own with
    | nil => exact h.elim
    | cons y own => obtain ⟨a, b, r⟩ := h; obtain ⟨own', r', p'⟩ := ih r; exact ⟨y :: own', ⟨a, b, r'⟩, p'.cons _⟩
  | swap x y l =>
    intro own h
    match own, h with
    | [], h => exact h.elim
    | [_], h => exact h.2.2.elim
    | o1 :: o2 :: own, ⟨a, b, a', b', r⟩ => exact ⟨o2 :: o1 :: own, ⟨a', b', a, b, r⟩, .swap _ _ _⟩
  | trans p q ih1 ih2 =>
    intro own h
    obtain ⟨o1, h1, p1⟩ := ih1 h
    obtain ⟨o2, h2, p2⟩ := ih2 h1
    exact ⟨o2, h2, p1.trans p2⟩
theorem St0.perm {oc oc' : List (Addr × Cell)} (p : oc.Perm oc') (S : St0 G c oc ml tm h m own fz) : ∃ own', St0 G c oc' ml tm h m own' fz := by
  obtain ⟨own', O', p'⟩ := owns_perm p S.O
  refine ⟨own', S.F, fun x hx => S.N x ?_, O', ?_, fun x hx => S.ap x (p'.symm.subset hx), S.sub, fun el hel x hx => ?_, S.tmp⟩
  · rcases List.mem_append.mp hx with hx | hx
    · exact List.mem_append_left _ (p'.symm.subset hx)
    · exact List.mem_append_right _ hx
  · exact (p'.map _).nodup S.nd
  · obtain ⟨v, hv, r⟩ := S.V el hel x hx
    exact ⟨v, hv.keep fun a ob e => p.subset e, r⟩
theorem St.perm {oc oc' : List (Addr × Cell)} (p : oc.Perm oc') (S : St G c oc ml tm h) : St G c oc' ml tm h := by
  obtain ⟨m, own, fz, S⟩ := S
  obtain ⟨own', S'⟩ := S.perm p
  exact ⟨m, own', fz, S'⟩

theorem St0.isList0 (S : St0 G c oc ml tm h m own fz) (hs : ∀ b ob, G.H0.get? b = some ob → c.h₀.get? b = some ob) {v : Value} {xs : List PyData} (r : RV G.H0 fz v (.list xs)) : ∃ a vs, v = .ref a ∧ h.IsList a vs.toArray ∧ RVs G.H0 fz vs xs := by
  obtain ⟨a, o, vs, n, e, k, hc, hd, r⟩ := rv_list r
  exact ⟨a, vs.toList, e, ⟨o, k.at (fun b ob e => S.F.keep b ob (hs b ob e)) (fun p hp => (S.N p (List.mem_append_right _ hp)).1), hc, n, by rw [hd]⟩, r⟩
theorem St0.isTup0 (S : St0 G c oc ml tm h m own fz) (hs : ∀ b ob, G.H0.get? b = some ob → c.h₀.get? b = some ob) {v : Value} {xs : List PyData} (r : RV G.H0 fz v (.tuple xs)) : ∃ a vs, v = .ref a ∧ IsTup h a vs.toArray ∧ RVs G.H0 fz vs xs := by
  obtain ⟨a, o, vs, n, e, k, hc, hd, r⟩ := rv_tuple r
  exact ⟨a, vs.toList, e, ⟨o, k.at (fun b ob e => S.F.keep b ob (hs b ob e)) (fun p hp => (S.N p (List.mem_append_right _ hp)).1), hc, n, by rw [hd]⟩, r⟩

theorem tm_app {x y : Value × Slot} {tm : List (Value × Slot)} {P : Value × Slot → Prop} (h : ∀ z ∈ y :: tm, P z) (hx : P x) : ∀ z ∈ x :: y :: tm, P z := fun z hz => by
  rcases List.mem_cons.mp hz with rfl | hz
  · exact hx
  · exact h z hz

/-- the iterator's object turned -/
theorem St0.iter {I : Addr} {o o' : Obj} (S : St0 G c (oc ++ [(I, .raw o)]) ml tm h m own fz) (p : Plain o) (hs : Heap.SameBut I h h') (ho : h'.get? I = some o') : ∃ own', St0 G c (oc ++ [(I, .raw o')]) ml tm h' m own' fz := by
  obtain ⟨_, _, _, k⟩ := S.set (quiet_raw p)
  exact k (.raw o') h' o' (fun b ob hb e => hs.extBut b ob hb e) ho rfl
theorem St0.iterOut {I : Addr} {o : Obj} (S : St0 G c (oc ++ [(I, .raw o)]) ml tm h m own fz) (p : Plain o) (hs : Heap.ExtBut I h h') : ∃ own', St0 G c oc ml tm h' m own' fz := by
  have := S.less (h' := h') (quiet_raw p) (fun b ob hb e => hs b ob hb e)
  rw [List.append_nil] at this
  exact this
theorem St0.iterObj {I : Addr} {o : Obj} (S : St0 G c (oc ++ [(I, .raw o)]) ml tm h m own fz) : h.get? I = some o ∧ ∀ b ob, (b, ob) ∈ fz → b ≠ I := by
  obtain ⟨ob, hm, q⟩ := owns_mem S.O (List.mem_append_right oc (.head _))
  obtain rfl : ob = o := q
  exact ⟨(S.N _ (List.mem_append_left _ hm)).1, fun b ob hb e => S.ap _ hm _ hb e.symm⟩

theorem ite_list {e : Expr} {xs : List PyData} (ok : c.Ok G lev) (h1 : Ev G c oc ml e (.d (.list xs)) oc1) : ItE G c oc ml e xs.length (fun i => .d (xs.getD i .none)) oc1 := by
  intro tm s Q E S k
  refine h1 tm s _ E S fun v h1 t1 S1 => ?_
  obtain ⟨m, own, fz, S1⟩ := S1
  obtain ⟨ax, vs, rfl, hL, r⟩ := S1.isList ok (S1.tmp _ (.head _))
  refine wpAny_pyIter_list hL ?_
  obtain ⟨own', S2⟩ := S1.newCell { cls := .type "list_iterator", data := .fields #[.ref ax, .int 0 0] }
  refine k _ _ [(.ref ax, .d (.list xs))] (fun i o => o.cls = .type "list_iterator" ∧ o.data = .fields #[.ref ax, .int i 0]) _ _ ⟨?_, ?_, fun {i o s Q E} hit ho q => wpAny_pyIter_listiter ⟨o, ho, hit⟩ q, fun {i o s Q E t v} hit ho q => letGo_fld ho hit.1 rfl q, ?_⟩ ⟨rfl, rfl⟩ ⟨m, own', fz, S2⟩
  · rintro i o ⟨_, e⟩; exact ⟨_, e⟩
  · intro env fml oc2 ml2 tm2 s2 Q2 E2 i o hi hit S3 kk
    obtain ⟨m3, own3, fz3, S3⟩ := S3
    have p : Plain o := ⟨_, hit.2⟩
    obtain ⟨a', vs', e', hL', r'⟩ := S3.isList0 ok.sub (S3.tmp _ (.head _))
    cases e'
    have hx : xs[i]? = some (xs.getD i .none) := by rw [List.getElem?_eq_getElem hi, List.getD_eq_getElem?_getD, List.getElem?_eq_getElem hi]; rfl
    obtain ⟨v, hv, rv⟩ := r'.get hx
    refine wpAny_pyNext_list_item ⟨o, S3.iterObj.1, hit⟩ hL' (by simpa using hv) fun h' hit' hs' => ?_
    obtain ⟨o', ho', hit'⟩ := hit'
    obtain ⟨own4, S4⟩ := S3.iter p hs' ho'
    exact kk v o' h' s2.toks hit' ⟨m3, own4, fz3, S4.tok rv⟩
  · intro env fml oc2 ml2 tm2 s2 Q2 E2 o hit S3 kk
    obtain ⟨m3, own3, fz3, S3⟩ := S3
    have p : Plain o := ⟨_, hit.2⟩
    obtain ⟨a', vs', e', hL', r'⟩ := S3.isList0 ok.sub (S3.tmp _ (.head _))
    cases e'
    refine wpAny_pyNext_list_end ok.hand ⟨o, S3.iterObj.1, hit⟩ hL' (by simp [r'.length]) fun h' hs' => ?_
    obtain ⟨own4, S4⟩ := S3.iterOut p hs'
    exact kk h' s2.toks ⟨m3, own4, fz3, S4⟩
theorem ite_tup {e : Expr} {xs : List PyData} (ok : c.Ok G lev) (h1 : Ev G c oc ml e (.d (.tuple xs)) oc1) : ItE G c oc ml e xs.length (fun i => .d (xs.getD i .none)) oc1 := by
  intro tm s Q E S k
  refine h1 tm s _ E S fun v h1 t1 S1 => ?_
  obtain ⟨m, own, fz, S1⟩ := S1
  obtain ⟨ax, vs, rfl, hL, r⟩ := S1.isTup ok (S1.tmp _ (.head _))
  refine wpAny_pyIter_tuple hL ?_
  obtain ⟨own', S2⟩ := S1.newCell { cls := .type "tuple_iterator", data := .fields #[.ref ax, .int 0 0] }
  refine k _ _ [(.ref ax, .d (.tuple xs))] (fun i o => o.cls = .type "tuple_iterator" ∧ o.data = .fields #[.ref ax, .int i 0]) _ _ ⟨?_, ?_, fun {i o s Q E} hit ho q => wpAny_pyIter_tupleiter ⟨o, ho, hit⟩ q, fun {i o s Q E t v} hit ho q => letGo_fld ho hit.1 rfl q, ?_⟩ ⟨rfl, rfl⟩ ⟨m, own', fz, S2⟩
  · rintro i o ⟨_, e⟩; exact ⟨_, e⟩
  · intro env fml oc2 ml2 tm2 s2 Q2 E2 i o hi hit S3 kk
    obtain ⟨m3, own3, fz3, S3⟩ := S3
    have p : Plain o := ⟨_, hit.2⟩
    obtain ⟨a', vs', e', hL', r'⟩ := S3.isTup0 ok.sub (S3.tmp _ (.head _))
    cases e'
    have hx : xs[i]? = some (xs.getD i .none) := by rw [List.getElem?_eq_getElem hi, List.getD_eq_getElem?_getD, List.getElem?_eq_getElem hi]; rfl
    obtain ⟨v, hv, rv⟩ := r'.get hx
    refine wpAny_pyNext_tuple_item ⟨o, S3.iterObj.1, hit⟩ hL' (by simpa using hv) fun h' hit' hs' => ?_
    obtain ⟨o', ho', hit'⟩ := hit'
    obtain ⟨own4, S4⟩ := S3.iter p hs' ho'
    exact kk v o' h' s2.toks hit' ⟨m3, own4, fz3, S4.tok rv⟩
  · intro env fml oc2 ml2 tm2 s2 Q2 E2 o hit S3 kk
    obtain ⟨m3, own3, fz3, S3⟩ := S3
    have p : Plain o := ⟨_, hit.2⟩
    obtain ⟨a', vs', e', hL', r'⟩ := S3.isTup0 ok.sub (S3.tmp _ (.head _))
    cases e'
    refine wpAny_pyNext_tuple_end ok.hand ⟨o, S3.iterObj.1, hit⟩ hL' (by simp [r'.length]) fun h' hs' => ?_
    obtain ⟨own4, S4⟩ := S3.iterOut p hs'
    exact kk h' s2.toks ⟨m3, own4, fz3, S4⟩
theorem ite_str {e : Expr} {x : Str} (ok : c.Ok G lev) (h1 : Ev G c oc ml e (.d (.str x)) oc1) (ha : x.cps.all (· < 128) = true := by decide) : ItE G c oc ml e x.cps.size (fun i => .d (.str ⟨#[x.cps.getD i 0]⟩)) oc1 := by
  intro tm s Q E S k
  refine h1 tm s _ E S fun v h1 t1 S1 => ?_
  obtain ⟨m, own, fz, S1⟩ := S1
  obtain ⟨t, rfl⟩ := rv_str (S1.tmp _ (.head _))
  refine wpAny_pyIter_ascii ha ?_
  obtain ⟨own', S2⟩ := S1.newCell { cls := .type "str_ascii_iterator", data := .fields #[.str x t, .int 0 0] }
  refine k _ _ [] (fun i o => o.cls = .type "str_ascii_iterator" ∧ o.data = .fields #[.str x t, .int i 0]) _ _ ⟨?_, ?_, fun {i o s Q E} hit ho q => wpAny_pyIter_striter_ascii ⟨o, ho, hit⟩ q, fun {i o s Q E t v} hit ho q => letGo_fld ho hit.1 rfl q, ?_⟩ ⟨rfl, rfl⟩ ⟨m, own', fz, S2.tms sub1⟩
  · rintro i o ⟨_, e⟩; exact ⟨_, e⟩
  · intro env fml oc2 ml2 tm2 s2 Q2 E2 i o hi hit S3 kk
    obtain ⟨m3, own3, fz3, S3⟩ := S3
    have p : Plain o := ⟨_, hit.2⟩
    have hx : x.cps[i]? = some (x.cps.getD i 0) := by rw [Array.getElem?_eq_getElem hi, Array.getD_eq_getD_getElem?, Array.getElem?_eq_getElem hi]; rfl
    refine wpAny_pyNext_ascii_item ⟨o, S3.iterObj.1, hit⟩ hx fun h' hit' hs' => ?_
    obtain ⟨o', ho', hit'⟩ := hit'
    obtain ⟨own4, S4⟩ := S3.iter p hs' ho'
    exact kk _ o' h' _ hit' ⟨m3, own4, fz3, S4.tok (RV.str _ _)⟩
  · intro env fml oc2 ml2 tm2 s2 Q2 E2 o hit S3 kk
    obtain ⟨m3, own3, fz3, S3⟩ := S3
    have p : Plain o := ⟨_, hit.2⟩
    refine wpAny_pyNext_ascii_end ok.hand ⟨o, S3.iterObj.1, hit⟩ (by simp) fun h' hs' => ?_
    obtain ⟨own4, S4⟩ := S3.iterOut p hs'
    exact kk h' s2.toks ⟨m3, own4, fz3, S4⟩
/-- range(n) -/
theorem ite_range {x : Str} {p pos : Pos} {e : Expr} {n : Nat} (ok : c.Ok G lev) (h0 : Ev G c oc ml (.Name x p) (.raw (.type "range")) oc) (h1 : Ev G c oc ml e (.d (.int n)) oc1) (hn63 : n ≤ 10000) (he : starEach [e] c.env = [(false, eval e c.env)] := by rfl) : ItE G c oc ml (.Call (.Name x p) [e] [] pos) n (fun i => .d (.int i)) oc1 := by
  intro tm s Q E S k
  refine Call_ (h0 tm s _ E S fun v g t S1 => ?_)
  obtain rfl : v = .type "range" := by obtain ⟨_, _, _, S1⟩ := S1; exact S1.tmp _ (.head _)
  rw [he]
  show wpAny _ _ (callWith pos (.type "range") [] [(false, eval e c.env)] []) _ _ _
  refine PyProof.Rows.callWith_type rfl (Calls.evalArgs_plain (Calls.spliced_cons (h1 tm _ _ E (S1.tms sub1) fun v1 g1 t1 S2 => wpAny_pure ?_)))
  obtain ⟨m, own, fz, S2⟩ := S2
  obtain ⟨u, rfl⟩ := rv_int (S2.tmp _ (.head _))
  refine range1_rows S2.F S2.N fun h' tk t₁ u₁ v₁ hr F' N' hk => ?_
  have hz : Builtin.Range.rangeSize 0 (n : Int) 1 = (n : Int) := by rw [rangeSize_one]; split <;> omega
  refine wpAny_pyIter_range hr (small_one (by omega) (by omega) (by omega) (by omega)) ?_
  rw [hz]
  have S3 : St0 G c oc1 ml tm h' m own fz := ⟨F', N', S2.O, S2.nd, S2.ap, S2.sub, S2.V, fun x hx => S2.tmp x (.tail _ hx)⟩
  obtain ⟨own', S4⟩ := S3.newCell { cls := .type "range_iterator", data := .fields #[rawInt 0, rawInt n, rawInt 1] }
  refine k _ _ [] (fun i o => o = { cls := .type "range_iterator", dict := none, data := .fields #[rawInt ((i : Nat) : Int), rawInt ((n : Int) - (i : Nat)), rawInt 1], slots := #[] }) _ _ ⟨?_, ?_, fun {i o s Q E} hit ho q => wpAny_pyIter_rangeiter (by rw [hit] at ho; exact ho) q, fun {i o s Q E t v} hit ho q => letGo_fld (T := "range_iterator") ho (by rw [hit]) rfl q, ?_⟩ (by simp) ⟨m, own', fz, S4⟩
  · rintro i o rfl; exact ⟨_, rfl⟩
  · intro env fml oc2 ml2 tm2 s2 Q2 E2 i o hi hit S3 kk
    obtain ⟨m3, own3, fz3, S3⟩ := S3
    have p : Plain o := by rw [hit]; exact ⟨_, rfl⟩
    have ho := S3.iterObj.1
    rw [hit] at ho
    refine wpAny_pyNext_range_item (x := (i : Int)) (left := (n : Int) - i) (step := 1) ho (by omega) fun h' hit' hs' => ?_
    obtain ⟨own4, S4⟩ := S3.iter p hs' hit'
    refine kk _ _ h' _ ?_ ⟨m3, own4, fz3, S4.tok (RV.int _ _)⟩
    have e1 : ((i : Int) + 1) = ((i + 1 : Nat) : Int) := by omega
    have e2 : ((n : Int) - i - 1) = (n : Int) - ((i + 1 : Nat) : Int) := by omega
    rw [e1, e2]
  · intro env fml oc2 ml2 tm2 s2 Q2 E2 o hit S3 kk
    obtain ⟨m3, own3, fz3, S3⟩ := S3
    have p : Plain o := by rw [hit]; exact ⟨_, rfl⟩
    have ho := S3.iterObj.1
    rw [hit] at ho
    refine wpAny_pyNext_range_end (x := (n : Int)) (left := (n : Int) - n) (step := 1) ok.hand ho (by omega) fun h' hs' => ?_
    obtain ⟨own4, S4⟩ := S3.iterOut p hs'
    exact kk h' s2.toks ⟨m3, own4, fz3, S4⟩

/-- binding a loop's target -/
noncomputable def Tgt (G : Glo) (c : Cx) (t : Expr) (sl : Slot) (up : List (Str × Slot) → List (Str × Slot)) : Prop :=
  ∀ (oc : List (Addr × Cell)) (ml : List (Str × Slot)) (tm : List (Value × Slot)) (s : Shared) (Q : Unit → Shared → Prop) (E : Value → Shared → Prop) (v : Value), St G c oc ml ((v, sl) :: tm) s.heap →
    (∀ h' tk', St G c oc (up ml) tm h' → Q () { s with heap := h', toks := tk' }) → wpAny (model G.prog G.w) c.A (assign t c.env v) Q E s
theorem tgt_name {x : Str} {p : Pos} {sl : Slot} (ok : c.FOk G lev) (hx : c.env.kindOf x = some .local) : Tgt G c (.Name x p) sl (updm x sl) := by
  intro oc ml tm s Q E v S k
  exact wpAny_assign_Name (store_local ok hx S k)

noncomputable def Ends (out : Out) (oc : List (Addr × Cell)) (ml : List (Str × Slot)) : Prop := out = .next oc ml ∨ out = .cont oc ml

/-- a loop that runs to its end, or stops in turn j -/
theorem sx_for_gen {t iter : Expr} {body : List Stmt} {pos : Pos} {n : Nat} {elt : Nat → Slot} (stop : Option (Nat × Out)) {ocs : Nat → List (Addr × Cell)} {mls : Nat → List (Str × Slot)} {up : Nat → List (Str × Slot) → List (Str × Slot)} (ok : c.Ok G lev)
    (hi : ItE G c oc ml iter n elt (ocs 0)) (h0 : ml = mls 0) (ht : ∀ i, i < n → Tgt G c t (elt i) (up i))
    (hb : ∀ tl i, i < n → (∀ p, stop = some p → i < p.1) → ∃ out, Ends out (ocs (i + 1) ++ tl) (mls (i + 1)) ∧ Ex G c (ocs i ++ tl) (up i (mls i)) body out)
    (hstop : ∀ j o, stop = some (j, o) → j < n ∧ ((∃ sl ocr, o = .ret sl ocr ∧ ∀ tl, Quiet tl.2 → Ex G c (ocs j ++ [tl]) (up j (mls j)) body (.ret sl (ocr ++ [tl]))) ∨ (∃ oce mle, o = .exc oce mle ∧ ∀ tl, Quiet tl.2 → Ex G c (ocs j ++ [tl]) (up j (mls j)) body (.exc (oce ++ [tl]) mle))))
    (out : Out) (hout : out = match stop with | none => .next (ocs n) (mls n) | some (_, o) => o)
    (hs : ∀ x, foldedSetIterable iter c.env x = pure x := by intro _; rfl) : Sx G c oc ml (.For t iter body [] pos) out := by
  intro tm s Q E hE S k
  refine wpAny_For (wpAny_mono (hi tm s (fun it s₂ => codeAny (model G.prog G.w) c.A (.forLoop t it body [] c.env) (fun r s' => match r with | .ok f => Q f s' | .error e => cameBackBy (model G.prog G.w) c.A c.env E e s') s₂) E S fun I o base It h' tk' W h00 S1 => ?_) (fun _ _ z => z) fun _ _ z => z) hs
  refine codeAny_forLoopG (fun k s' => ∃ i o' h2 tk2, s' = { s with heap := h2, toks := tk2 } ∧ It i o' ∧ St G c (ocs i ++ [(I, .raw o')]) (mls i) (base ++ tm) h2 ∧ i ≤ n ∧ (∀ p, stop = some p → i ≤ p.1) ∧ k = n + 1 - i) ?_ (n + 1)
    ⟨0, o, h', tk', rfl, h00, h0 ▸ S1, Nat.zero_le _, fun _ _ => Nat.zero_le _, rfl⟩
  rintro k2 s2 ⟨i, o', h2, tk2, rfl, hit, S2, hin, hip, rfl⟩
  by_cases hlt : i < n
  · refine W.next (env := c.env) (fml := c.fml) hlt hit S2 fun v o2 h3 tk3 hit3 S3 => ?_
    have hI3 : h3.get? I = some o2 := by obtain ⟨_, _, _, S3⟩ := S3; exact S3.iterObj.1
    refine W.letgo hit3 hI3 ?_
    refine ht i hlt _ _ _ _ _ _ v S3 fun h4 tk4 S4 => wpAny_passesOwn hE ?_
    have pl := W.plain _ _ hit3
    by_cases hst : ∃ o, stop = some (i, o)
    · obtain ⟨o9, hst⟩ := hst
      rw [hst] at hout
      subst hout
      obtain ⟨_, ⟨sl, ocr, rfl, hx⟩ | ⟨oce, mle, rfl, hx⟩⟩ := hstop i _ hst
      · refine hx (I, .raw o2) (quiet_raw pl) (base ++ tm) _ _ E hE S4 fun v9 h9 tk9 S9 => k v9 h9 tk9 ?_
        obtain ⟨m9, own9, fz9, S9⟩ := S9
        obtain ⟨own10, S10⟩ := S9.less (h' := h9) (quiet_raw pl) (fun _ _ _ e => e)
        rw [List.append_nil] at S10
        exact ⟨m9, own10, fz9, S10.tms fun x hx => by
          rcases List.mem_cons.mp hx with rfl | hx
          · exact .head _
          · exact .tail _ (List.mem_append_right _ hx)⟩
      · exact hx (I, .raw o2) (quiet_raw pl) (base ++ tm) _ _ E hE S4 fun e9 h9 tk9 X => k e9 h9 tk9 (by
          have := X.less (quiet_raw pl)
          rwa [List.append_nil] at this)
    · obtain ⟨o9, hends, hx⟩ := hb [(I, .raw o2)] i hlt fun p hp => by
        have := hip p hp
        rcases Nat.lt_or_eq_of_le this with h | h
        · exact h
        · exact absurd ⟨p.2, by rw [hp, h]⟩ hst
      have nxt : ∀ h9 tk9, St G c (ocs (i + 1) ++ [(I, .raw o2)]) (mls (i + 1)) (base ++ tm) h9 → ∃ m, m < n + 1 - i ∧ ∃ i' o' h2 tk2, ({ s with heap := h9, toks := tk9 } : Shared) = { s with heap := h2, toks := tk2 } ∧ It i' o' ∧ St G c (ocs i' ++ [(I, .raw o')]) (mls i') (base ++ tm) h2 ∧ i' ≤ n ∧ (∀ p, stop = some p → i' ≤ p.1) ∧ m = n + 1 - i' := fun h9 tk9 S9 =>
        ⟨n + 1 - (i + 1), by omega, i + 1, o2, h9, tk9, rfl, hit3, S9, hlt, fun p hp => by
          have := hip p hp
          rcases Nat.lt_or_eq_of_le this with h | h
          · exact h
          · exact absurd ⟨p.2, by rw [hp, h]⟩ hst, rfl⟩
      refine hx (base ++ tm) _ _ E hE S4 ?_
      rcases hends with rfl | rfl
      · exact fun h9 tk9 S9 => nxt h9 tk9 S9
      · exact fun h9 tk9 S9 => nxt h9 tk9 S9
  · obtain rfl : i = n := Nat.le_antisymm hin (Nat.not_lt.mp hlt)
    refine W.done (env := c.env) (fml := c.fml) hit S2 fun h3 tk3 S3 => wpAny_execs_nil ?_
    cases stop with
    | none =>
      subst hout
      exact k h3 tk3 (S3.tms fun x hx => List.mem_append_right _ hx)
    | some p =>
      have := hip p rfl
      have := (hstop p.1 p.2 rfl).1
      omega
/-- the plain loop -/
theorem sx_for {t iter : Expr} {body : List Stmt} {pos : Pos} {n : Nat} {elt : Nat → Slot} (ocs : Nat → List (Addr × Cell)) (mls : Nat → List (Str × Slot)) {up : Nat → List (Str × Slot) → List (Str × Slot)} (ok : c.Ok G lev)
    (hi : ItE G c oc (mls 0) iter n elt (ocs 0)) (ht : ∀ i, i < n → Tgt G c t (elt i) (up i))
    (hb : ∀ tl i, i < n → ∃ out, Ends out (ocs (i + 1) ++ tl) (mls (i + 1)) ∧ Ex G c (ocs i ++ tl) (up i (mls i)) body out)
    (hs : ∀ x, foldedSetIterable iter c.env x = pure x := by intro _; rfl) : Sx G c oc (mls 0) (.For t iter body [] pos) (.next (ocs n) (mls n)) :=
  sx_for_gen none ok hi rfl ht (fun tl i h _ => hb tl i h) (fun _ _ h => nomatch h) _ rfl hs
theorem sx_for_ret {t iter : Expr} {body : List Stmt} {pos : Pos} {n : Nat} {elt : Nat → Slot} (ocs : Nat → List (Addr × Cell)) (mls : Nat → List (Str × Slot)) {up : Nat → List (Str × Slot) → List (Str × Slot)} (j : Nat) {sl : Slot} {ocr : List (Addr × Cell)} (ok : c.Ok G lev)
    (hi : ItE G c oc (mls 0) iter n elt (ocs 0)) (ht : ∀ i, i < n → Tgt G c t (elt i) (up i)) (hj : j < n)
    (hb : ∀ tl i, i < j → ∃ out, Ends out (ocs (i + 1) ++ tl) (mls (i + 1)) ∧ Ex G c (ocs i ++ tl) (up i (mls i)) body out)
    (hr : ∀ tl, Quiet tl.2 → Ex G c (ocs j ++ [tl]) (up j (mls j)) body (.ret sl (ocr ++ [tl])))
    (hs : ∀ x, foldedSetIterable iter c.env x = pure x := by intro _; rfl) : Sx G c oc (mls 0) (.For t iter body [] pos) (.ret sl ocr) :=
  sx_for_gen (some (j, .ret sl ocr)) ok hi rfl ht (fun tl i h hp => hb tl i (hp _ rfl)) (fun j' o h => by cases h; exact ⟨hj, .inl ⟨_, _, rfl, hr⟩⟩) _ rfl hs
theorem sx_for_exc {t iter : Expr} {body : List Stmt} {pos : Pos} {n : Nat} {elt : Nat → Slot} (ocs : Nat → List (Addr × Cell)) (mls : Nat → List (Str × Slot)) {up : Nat → List (Str × Slot) → List (Str × Slot)} (j : Nat) {oce : List (Addr × Cell)} {mle : List (Str × Slot)} (ok : c.Ok G lev)
    (hi : ItE G c oc (mls 0) iter n elt (ocs 0)) (ht : ∀ i, i < n → Tgt G c t (elt i) (up i)) (hj : j < n)
    (hb : ∀ tl i, i < j → ∃ out, Ends out (ocs (i + 1) ++ tl) (mls (i + 1)) ∧ Ex G c (ocs i ++ tl) (up i (mls i)) body out)
    (hr : ∀ tl, Quiet tl.2 → Ex G c (ocs j ++ [tl]) (up j (mls j)) body (.exc (oce ++ [tl]) mle))
    (hs : ∀ x, foldedSetIterable iter c.env x = pure x := by intro _; rfl) : Sx G c oc (mls 0) (.For t iter body [] pos) (.exc oce mle) :=
  sx_for_gen (some (j, .exc oce mle)) ok hi rfl ht (fun tl i h hp => hb tl i (hp _ rfl)) (fun j' o h => by cases h; exact ⟨hj, .inr ⟨_, _, rfl, hr⟩⟩) _ rfl hs
end
end Mine
end
section
open PySem PySem.W PyProof.Rows PySem.Calls PySem.Spec
open PyProof.Rows.LCg (NsObj ns_obj)
namespace Mine
section
variable {G : Glo} {c : Cx} {oc oc1 oc2 oc3 oc' : List (Addr × Cell)} {ml ml1 ml2 ml' mlc : List (Str × Slot)} {tm base : List (Value × Slot)} {h h' : Heap} {m : Str → Option Value} {own fz : Led} {lev : Nat} {out : Out}

theorem ns_cell {o : Obj} {m : Str → Option Value} {v : Option Value} (n : NsObj o m) (e : o.data = .cell v) : False := by
  obtain ⟨es, ep, hd, _⟩ := n
  rw [e] at hd; cases hd
theorem VarAt.lessC {env : Env} {L : Addr} {x : Str} {v : Value} {C : Addr} {oC : Obj} {mm : Str → Option Value} {pre post : List (Addr × Cell)} (n : NsObj oC mm) (k : env.kindOf x ≠ some .local ∨ env.locals ≠ C) (r : VarAt env L m (pre ++ (C, .raw oC) :: post) x v) : VarAt env L m (pre ++ post) x v := by
  rcases r with r | ⟨k1, o2, m₂, hm, hn, r⟩ | ⟨k1, b, ob, hl, hm, r⟩
  · exact .inl r
  · refine .inr (.inl ⟨k1, o2, m₂, ?_, hn, r⟩)
    rcases List.mem_append.mp hm with hm | hm
    · exact List.mem_append_left _ hm
    · rcases List.mem_cons.mp hm with hm | hm
      · rcases k with k | k
        · exact absurd k1 k
        · exact absurd (congrArg Prod.fst hm) k
      · exact List.mem_append_right _ hm
  · refine .inr (.inr ⟨k1, b, ob, hl, ?_, r⟩)
    rcases List.mem_append.mp hm with hm | hm
    · exact List.mem_append_left _ hm
    · rcases List.mem_cons.mp hm with hm | hm
      · cases hm; exact (ns_cell n r).elim
      · exact List.mem_append_right _ hm

/-- the names that a comprehension sees of the frame's -/
noncomputable def Seen (c : Cx) (scope : Scope) (cl : List (Str × Addr)) (ml mlc : List (Str × Slot)) : Prop :=
  ∀ y ∈ mlc, y ∈ ml ∧ c.env.kindOf y.1 = some .cell ∧ ∀ C, ((compEnvC scope cl C c.env).kindOf y.1 = some .cell ∨ (compEnvC scope cl C c.env).kindOf y.1 = some .free) ∧ cl.lookup y.1 = c.env.cells.lookup y.1

noncomputable def Cx.comp (c : Cx) (scope : Scope) (cl : List (Str × Addr)) (ml : List (Str × Slot)) (C : Addr) : Cx := c.wE (compEnvC scope cl C c.env) ml

theorem comp_ok {scope : Scope} {cl : List (Str × Addr)} {C : Addr} (ok : c.Ok G lev) (hk : scope.kind = .function) : (c.comp scope cl ml C).Ok G lev := ⟨ok.below, ok.fkind, hk, ok.frame, ok.globals, ok.builtins, ok.hand, ok.dep, ok.units⟩

theorem St0.toComp {scope : Scope} {cl : List (Str × Addr)} {C : Addr} (ok : c.FOk G lev) (S : St0 G c oc ml tm h m own fz) (hs : Seen c scope cl ml mlc) : St0 G (c.comp scope cl ml C) oc mlc tm h m own fz := by
  refine ⟨S.F, S.N, S.O, S.nd, S.ap, S.sub, fun el hel x hx => ?_, S.tmp⟩
  rcases List.mem_cons.mp hel with rfl | hel
  · obtain ⟨h1, h2, h3⟩ := hs x hx
    obtain ⟨v, hv, r⟩ := S.V1 x h1
    refine ⟨v, ?_, r⟩
    obtain ⟨k, e⟩ := h3 C
    rcases hv with ⟨a, _⟩ | ⟨a, _⟩ | ⟨_, a, o, e2, f⟩
    · rw [h2] at a; cases a
    · rw [h2] at a; cases a
    · exact .inr (.inr ⟨k, a, o, e.trans e2, f⟩)
  · rw [List.mem_singleton.mp hel] at hx ⊢
    obtain ⟨v, hv, r⟩ := S.V1 x hx
    exact ⟨v, (ok.same ▸ hv : VarAt c.fenv c.L m oc x.1 v), r⟩
theorem St0.ofComp {scope : Scope} {cl : List (Str × Addr)} {C : Addr} (ok : c.FOk G lev) (S : St0 G (c.comp scope cl ml C) oc mlc tm h m own fz) : St0 G c oc ml tm h m own fz := by
  refine ⟨S.F, S.N, S.O, S.nd, S.ap, S.sub, vs_of ok.nofml fun x hx => ?_, S.tmp⟩
  obtain ⟨v, hv, r⟩ := S.V (c.fenv, ml) (.tail _ (.head _)) x hx
  exact ⟨v, (ok.same.symm ▸ hv : VarAt c.env c.L m oc x.1 v), r⟩

/-- tests of a comprehension: none, or one -/
noncomputable def Tests (G : Glo) (c : Cx) (oc : List (Addr × Cell)) (ml : List (Str × Slot)) (ifs : List Expr) (b : Bool) : Prop :=
  (ifs = [] ∧ b = true) ∨ ∃ t, ifs = [t] ∧ Tr G c oc ml t b oc

theorem tests_run {ifs : List Expr} {b : Bool} {s : Shared} {Q : Bool → Shared → Prop} {E : Value → Shared → Prop} (T : Tests G c oc ml ifs b) (S : St G c oc ml tm s.heap) (k : ∀ h' tk', St G c oc ml tm h' → Q b { s with heap := h', toks := tk' }) :
    wpAny (model G.prog G.w) c.A (forIn ifs true fun c' r => if r = true then do let ok ← isTrue c' c.env (eval c' c.env); pure (ForInStep.yield ok) else pure (ForInStep.yield r)) Q E s := by
  rcases T with ⟨rfl, rfl⟩ | ⟨t, rfl, T⟩
  · exact wpAny_pure (k _ _ S)
  · rw [List.forIn_cons]
    refine wpAny_bind ?_
    rw [if_pos rfl]
    refine wpAny_bind (T tm s _ E S fun h' tk' S' => wpAny_pure ?_)
    exact wpAny_pure (k _ _ S')

theorem comp_core {elt iter : Expr} {x : Str} {px pos : Pos} {ifs : List Expr} {scope : Scope} {cl : List (Str × Addr)} {n : Nat} {el : Nat → Slot} {keep : Nat → Bool} {val : Nat → PyData} {It : Nat → Obj → Prop} {I C D : Addr} {oI oC : Obj} {mm : Str → Option Value} {s : Shared} {RR : Result → Shared → Prop}
    (ok : c.FOk G lev) (hkind : scope.kind = .function) (hx : scope.names.lookup x = some .local) (hs : Seen c scope cl ml mlc) (W : Iters G c base n el It I) (h0 : It 0 oI) (hn : NsObj oC mm) (hsz : n ≤ 10000)
    (S : St G c (oc1 ++ [(D, .lst []), (C, .raw oC)] ++ [(I, .raw oI)]) ml (base ++ tm) s.heap)
    (hb : ∀ C tl i, i < n → (c.comp scope cl ml C).Ok G lev → Tests G (c.comp scope cl ml C) (oc1 ++ tl) ((x, el i) :: mlc) ifs (keep i) ∧ (keep i = true → Ev G (c.comp scope cl ml C) (oc1 ++ tl) ((x, el i) :: mlc) elt (.d (val i)) (oc1 ++ tl)))
    (hR : ∀ h' tk' oC mm, NsObj oC mm → St G c (oc1 ++ [(D, .lst (((List.range n).filter keep).map val)), (C, .raw oC)]) ml (base ++ tm) h' → RR (.ok .next) { s with heap := h', toks := tk' }) :
    codeAny (model G.prog G.w) c.A (.compStart (.ListComp elt [⟨.Name x px, iter, ifs, 0⟩] scope pos) 0 (.ref I) (.ref D) (compEnvC scope cl C c.env)) RR s := by
  have hCL : ∀ {oc : List (Addr × Cell)} {ml : List (Str × Slot)} {tm : List (Value × Slot)} {h : Heap} {o : Obj}, St G (c.comp scope cl ml C) oc mlc tm h → (C, Cell.raw o) ∈ oc → C ≠ c.L := by
    rintro oc ml tm h o ⟨m, own, fz, S⟩ hm
    obtain ⟨o', h1, _⟩ := owns_mem S.O hm
    exact (S.N _ (List.mem_append_left _ h1)).2.1
  have S' : St G (c.comp scope cl ml C) (oc1 ++ [(D, .lst []), (C, .raw oC)] ++ [(I, .raw oI)]) mlc (base ++ tm) s.heap := by
    obtain ⟨m, own, fz, S⟩ := S
    exact ⟨m, own, fz, S.toComp ok hs⟩
  have loop : codeAny (model G.prog G.w) c.A (.compLoop (.ListComp elt [⟨.Name x px, iter, ifs, 0⟩] scope pos) 0 (.ref I) (.ref D) (compEnvC scope cl C c.env)) RR s := by
    refine codeAny_compLoop_tests (fun k s' => ∃ i h' tk' oC oI mm, s' = { s with heap := h', toks := tk' } ∧ i ≤ n ∧ k = n + 1 - i ∧ It i oI ∧ NsObj oC mm ∧ St G (c.comp scope cl ml C) (oc1 ++ [(D, .lst (((List.range i).filter keep).map val)), (C, .raw oC)] ++ [(I, .raw oI)]) mlc (base ++ tm) h') ?_ (n + 1)
      ⟨0, s.heap, s.toks, oC, oI, mm, rfl, Nat.zero_le _, rfl, h0, hn, S'⟩
    rintro k s' ⟨i, h1, tk1, oC, oI, mm, rfl, hi, rfl, hit, hn, S1⟩
    by_cases hlt : i < n
    · refine W.next (env := compEnvC scope cl C c.env) (fml := ml) hlt hit S1 fun v oI2 h2 tk2 hit2 S2 => ?_
      have hCL2 := hCL S2 (List.mem_append_left _ (List.mem_append_right _ (.tail _ (.head _))))
      obtain ⟨m, own, fz, S2⟩ := S2
      rw [List.append_assoc, show (oc1 ++ ([(D, Cell.lst (((List.range i).filter keep).map val)), (C, Cell.raw oC)] ++ [(I, Cell.raw oI2)])) = (oc1 ++ [(D, Cell.lst (((List.range i).filter keep).map val))]) ++ (C, Cell.raw oC) :: [(I, Cell.raw oI2)] by simp] at S2
      have vq : ∀ el ∈ [((c.comp scope cl ml C).env, mlc), (c.fenv, ml)], ∀ y ∈ el.2, ∀ v, VarAt el.1 c.L m ((oc1 ++ [(D, Cell.lst (((List.range i).filter keep).map val))]) ++ (C, Cell.raw oC) :: [(I, Cell.raw oI2)]) y.1 v → VarAt el.1 c.L m ((oc1 ++ [(D, Cell.lst (((List.range i).filter keep).map val))]) ++ [(I, Cell.raw oI2)]) y.1 v := by
        intro el hel y hy v hv
        refine VarAt.lessC hn ?_ hv
        rcases List.mem_cons.mp hel with rfl | hel
        · refine .inl fun e => ?_
          obtain ⟨k, _⟩ := (hs y hy).2.2 C
          have e : (compEnvC scope cl C c.env).kindOf y.1 = some .local := e
          rcases k with k | k <;> (rw [k] at e; cases e)
        · rw [List.mem_singleton.mp hel]
          exact .inr fun e => hCL2 (e.symm.trans ok.locs)
      obtain ⟨oC', hoC, q, kset⟩ := S2.setV vq
      obtain rfl : oC' = oC := q
      refine wpAny_assign_Name (wpAny_storeName_local (lookup_relabel_local hx) (hn.ns hoC) (fun h3 hn3 hs3 => ?_) (by simp [compEnvC, relabel, hkind]))
      obtain ⟨oC3, hoC3, hno3⟩ := ns_obj hn3
      obtain ⟨own3, S3⟩ := kset (.raw oC3) h3 oC3 (fun b ob hb e => hs3.extBut b ob hb e) hoC3 rfl
      have S3' : St0 G (c.comp scope cl ml C) (oc1 ++ [(D, Cell.lst (((List.range i).filter keep).map val)), (C, Cell.raw oC3), (I, Cell.raw oI2)]) ((x, el i) :: mlc) (base ++ tm) h3 m own3 fz := by
        rw [List.append_assoc] at S3
        refine ⟨S3.F, S3.N, S3.O, S3.nd, S3.ap, S3.sub, fun l hl y hy => ?_, fun y hy => S3.tmp y (.tail _ hy)⟩
        rcases List.mem_cons.mp hl with rfl | hl
        · rcases List.mem_cons.mp hy with rfl | hy
          · exact ⟨v, .inr (.inl ⟨lookup_relabel_local hx, oC3, _, List.mem_append_right _ (.tail _ (.head _)), hno3, by simp⟩), S3.tmp _ (.head _)⟩
          · exact S3.V1 y hy
        · exact S3.V l (.tail _ hl) y hy
      obtain ⟨hT, hE⟩ := hb C [(D, Cell.lst (((List.range i).filter keep).map val)), (C, Cell.raw oC3), (I, Cell.raw oI2)] i hlt (comp_ok ok.toOk hkind)
      refine tests_run hT ⟨m, own3, fz, S3'⟩ fun h4 tk4 S4 => ?_
      have back : ∀ {oc : List (Addr × Cell)} {h : Heap} {tm' : List (Value × Slot)}, St G (c.comp scope cl ml C) oc ((x, el i) :: mlc) tm' h → (∀ y ∈ base ++ tm, y ∈ tm') → St G (c.comp scope cl ml C) oc mlc (base ++ tm) h := fun S h => (S.mls sub1).tms h
      cases hk : keep i with
      | false =>
        rw [if_neg Bool.false_ne_true]
        refine ⟨n + 1 - (i + 1), by omega, i + 1, h4, tk4, oC3, oI2, _, rfl, hlt, rfl, hit2, hno3, ?_⟩
        rw [List.range_succ, List.filter_append, List.filter_cons, hk]
        simpa using back S4 (fun _ h => h)
      | true =>
        rw [if_pos rfl]
        refine hE hk _ _ _ _ S4 fun v5 h5 tk5 S5 => ?_
        obtain ⟨m5, own5, fz5, S5⟩ := S5
        obtain ⟨oD, hoD, qD, ksetD⟩ := S5.set (cl := .lst (((List.range i).filter keep).map val)) (fun _ e => nomatch e)
        obtain ⟨vs, nn, rfl, rvs⟩ := qD
        refine append_at hoD (fun h6 hs6 hD6 => ?_) ?_
        · obtain ⟨own6, S6⟩ := ksetD (.lst (((List.range (i + 1)).filter keep).map val)) h6 _ (fun b ob hb e => hs6.extBut b ob hb e) hD6 ⟨vs ++ [v5], nn + 1, by simp [listObj], by
            rw [List.range_succ, List.filter_append, List.filter_cons, hk, List.map_append]
            exact rvs.append (.cons (S5.tmp _ (.head _)) .nil)⟩
          refine ⟨n + 1 - (i + 1), by omega, i + 1, h6, tk5, oC3, oI2, _, rfl, hlt, rfl, hit2, hno3, ?_⟩
          have := back ⟨m5, own6, fz5, S6⟩ sub1
          simpa using this
        · rw [List.size_toArray, rvs.length, List.length_map]
          refine Nat.le_trans (List.length_filter_le _ _) ?_
          rw [List.length_range]
          exact Nat.le_trans hi (sz_ok hsz)
    · obtain rfl : i = n := Nat.le_antisymm hi (Nat.not_lt.mp hlt)
      refine W.done (env := compEnvC scope cl C c.env) (fml := ml) hit S1 fun h2 tk2 S2 => ?_
      obtain ⟨m, own, fz, S2⟩ := S2
      exact hR h2 tk2 oC mm hn ⟨m, own, fz, St0.ofComp (scope := scope) (cl := cl) (C := C) (mlc := mlc) ok S2⟩
  have hI : s.heap.get? I = some oI := by
    obtain ⟨m, own, fz, S⟩ := S
    exact S.iterObj.1
  exact codeAny_compStart_list loop (W.self h0 hI loop)

theorem St0.lessC {pre post : List (Addr × Cell)} {C : Addr} {oC : Obj} {mm : Str → Option Value} (ok : c.FOk G lev) (S : St0 G c (pre ++ (C, .raw oC) :: post) ml tm h m own fz) (n : NsObj oC mm) (hk : ∀ b ob, b ≠ C → h.get? b = some ob → h'.get? b = some ob) : ∃ own', St0 G c (pre ++ post) ml tm h' m own' fz := by
  have hCL : C ≠ c.L := by
    obtain ⟨o', h1, _⟩ := owns_mem S.O (List.mem_append_right pre (.head _))
    exact (S.N _ (List.mem_append_left _ h1)).2.1
  refine S.lessV (fun el hel y hy v hv => VarAt.lessC n (.inr ?_) hv) hk
  have hL : c.env.locals = c.L := by rw [ok.same, ok.locs]
  rcases List.mem_cons.mp hel with rfl | hel
  · exact fun e => hCL (e.symm.trans hL)
  · rw [List.mem_singleton.mp hel]
    exact fun e => hCL (e.symm.trans ok.locs)

theorem comp_gen {elt iter : Expr} {x : Str} {px pos pos2 : Pos} {ifs : List Expr} {scope : Scope} {cl : List (Str × Addr)} {n : Nat} {el : Nat → Slot} {keep : Nat → Bool} {val : Nat → PyData} {s : Shared} {use : Option (Value → Sem Unit)} {Q E : Value → Shared → Prop}
    (ok : c.FOk G lev) (hi : ItE G c oc ml iter n el oc1) (hclos : closureFor scope c.env = pure cl) (hcell : ∀ y ∈ scope.names, y.2 ≠ .cell) (hkind : scope.kind = .function) (hnames : ∀ y ∈ scope.names, y.2 = .local → scope.names.lookup y.1 = some .local) (hx : scope.names.lookup x = some .local)
    (hs : Seen c scope cl ml mlc) (hsz : n ≤ 10000)
    (S : St G c oc ml tm s.heap)
    (hb : ∀ C tl i, i < n → (c.comp scope cl ml C).Ok G lev → Tests G (c.comp scope cl ml C) (oc1 ++ tl) ((x, el i) :: mlc) ifs (keep i) ∧ (keep i = true → Ev G (c.comp scope cl ml C) (oc1 ++ tl) ((x, el i) :: mlc) elt (.d (val i)) (oc1 ++ tl)))
    (hR : ∀ h' tk' C D oC mm base, NsObj oC mm → St G c (oc1 ++ [(D, .lst (((List.range n).filter keep).map val)), (C, .raw oC)]) ml (base ++ tm) h' → compPost (model G.prog G.w) c.A E use Q (.ref D) C (.ok .next) { s with heap := h', toks := tk' })
    (hfs : ∀ x, foldedSetIterable iter c.env x = pure x := by intro _; rfl) :
    wpAny (model G.prog G.w) c.A (comprehension (.ListComp elt [⟨.Name x px, iter, ifs, 0⟩] scope pos) scope c.env pos2 (newList []) false (eval iter c.env) use) Q E s := by
  refine wpAny_comprehension_free rfl hfs hclos hkind hnames (wpAny_mono (hi tm s (fun it s₂ => wpAny (model G.prog G.w) c.A (newList []) (fun acc s₃ => wpAny (model G.prog G.w) c.A (newFunctionEnv scope c.env.globals cl [] c.env.qual none .none (some c.env)) (fun cenv s₄ =>
        codeAny (model G.prog G.w) c.A (.compStart (.ListComp elt [⟨.Name x px, iter, ifs, 0⟩] scope pos) 0 it acc { cenv with scope := relabel scope c.env }) (compPost (model G.prog G.w) c.A E use Q acc cenv.locals) s₄) E s₃) E s₂) E S fun I oI base It h1 tk1 W h0 S1 => ?_) (fun _ _ z => z) fun _ _ z => z)
  refine wpAny_newObj_type (wpAny_newFunctionEnv hcell (by intro y hy; simp at hy) (fun h2 hns2 hsb2 => ?_) hkind)
  dsimp only at hns2 hsb2 ⊢
  obtain ⟨m, own, fz, S1⟩ := S1
  obtain ⟨own2, S2⟩ := S1.newAt (cl := .lst []) (o := listObj [] 0) (fun b ob e => Heap.get?_push_of_some _ e) (size_none h1) (Heap.get?_push_size _ rfl) ⟨[], 0, rfl, .nil⟩
  obtain ⟨oC, hoC, hno⟩ := ns_obj hns2
  have hne : ∀ b ob, (h1.push (listObj [] 0)).get? b = some ob → h2.get? b = some ob := fun b ob e => by
    refine hsb2.extBut b ob ?_ (Heap.get?_push_of_some _ e)
    exact Nat.ne_of_lt (Heap.lt_size e)
  obtain ⟨own3, S3⟩ := S2.newAt (cl := .raw oC) hne (size_none _) hoC rfl
  have p : (oc1 ++ [(I, Cell.raw oI)] ++ [(h1.objs.size, Cell.lst [])] ++ [((h1.push (listObj [] 0)).objs.size, Cell.raw oC)]).Perm (oc1 ++ [(h1.objs.size, .lst []), ((h1.push (listObj [] 0)).objs.size, .raw oC)] ++ [(I, .raw oI)]) := by
    rw [List.append_assoc, List.append_assoc, List.append_assoc]
    refine List.Perm.append_left _ ?_
    exact (List.perm_append_comm (l₁ := [(I, Cell.raw oI)]) (l₂ := [(h1.objs.size, Cell.lst []), ((h1.push (listObj [] 0)).objs.size, Cell.raw oC)]))
  obtain ⟨own4, S4⟩ := S3.perm p
  exact comp_core (base := base) (tm := tm) ok hkind hx hs W h0 hno hsz ⟨m, own4, fz, S4⟩ hb fun h' tk' oC mm hn S' => hR h' tk' _ _ oC mm base hn S'

theorem ev_listcomp {elt iter : Expr} {x : Str} {px pos : Pos} {ifs : List Expr} {scope : Scope} {cl : List (Str × Addr)} {n : Nat} {el : Nat → Slot} {keep : Nat → Bool} {val : Nat → PyData}
    (ok : c.FOk G lev) (hi : ItE G c oc ml iter n el oc1) (hclos : closureFor scope c.env = pure cl) (hs : Seen c scope cl ml mlc) (hsz : n ≤ 10000)
    (hb : ∀ C tl i, i < n → (c.comp scope cl ml C).Ok G lev → Tests G (c.comp scope cl ml C) (oc1 ++ tl) ((x, el i) :: mlc) ifs (keep i) ∧ (keep i = true → Ev G (c.comp scope cl ml C) (oc1 ++ tl) ((x, el i) :: mlc) elt (.d (val i)) (oc1 ++ tl)))
    (hcell : ∀ y ∈ scope.names, y.2 ≠ .cell := by decide) (hkind : scope.kind = .function := by rfl) (hnames : ∀ y ∈ scope.names, y.2 = .local → scope.names.lookup y.1 = some .local := by decide) (hx : scope.names.lookup x = some .local := by rfl)
    (hfs : ∀ x, foldedSetIterable iter c.env x = pure x := by intro _; rfl) :
    Ev G c oc ml (.ListComp elt [⟨.Name x px, iter, ifs, 0⟩] scope pos) (.d (.list (((List.range n).filter keep).map val))) oc1 := by
  intro tm s Q E S k
  rw [eval_ListComp]
  refine comp_gen (use := none) ok hi hclos hcell hkind hnames hx hs hsz S hb (fun h' tk' C D oC mm base hn S1 => ?_) hfs
  obtain ⟨m, own, fz, S1⟩ := S1
  have hC : h'.get? C = some oC := by
    obtain ⟨o, h1, q⟩ := owns_mem S1.O (List.mem_append_right oc1 (.tail _ (.head _)))
    obtain rfl : o = oC := q
    exact (S1.N _ (List.mem_append_left _ h1)).1
  refine ⟨mm, hn.ns hC, fun h2 hs2 => ?_⟩
  have e : oc1 ++ [(D, Cell.lst (((List.range n).filter keep).map val)), (C, Cell.raw oC)] = (oc1 ++ [(D, Cell.lst (((List.range n).filter keep).map val))]) ++ (C, Cell.raw oC) :: [] := by simp
  rw [e] at S1
  obtain ⟨own2, S2⟩ := S1.lessC ok hn (fun b ob hb e => hs2.extBut b ob hb e)
  rw [List.append_nil] at S2
  obtain ⟨own3, S3⟩ := S2.perm (List.perm_append_comm (l₁ := oc1))
  have S4 : St0 G c ((D, Cell.lst (((List.range n).filter keep).map val)) :: oc1) ml ((.ref D, .own D) :: tm) h2 m own3 fz := (S3.tms fun x hx => List.mem_append_right _ hx).tok rfl
  obtain ⟨own5, fz5, S5⟩ := S4.freeze (.inl rfl)
  exact k _ h2 _ ⟨m, own5, fz5, S5⟩

theorem sx_assign_comp {elt iter : Expr} {x y : Str} {px py pos spos : Pos} {ifs : List Expr} {scope : Scope} {cl : List (Str × Addr)} {n : Nat} {el : Nat → Slot} {keep : Nat → Bool} {val : Nat → PyData}
    (ok : c.FOk G lev) (hy : c.env.kindOf y = some .local) (hi : ItE G c oc ml iter n el oc1) (hclos : closureFor scope c.env = pure cl) (hs : Seen c scope cl ml mlc) (hsz : n ≤ 10000)
    (hb : ∀ C tl i, i < n → (c.comp scope cl ml C).Ok G lev → Tests G (c.comp scope cl ml C) (oc1 ++ tl) ((x, el i) :: mlc) ifs (keep i) ∧ (keep i = true → Ev G (c.comp scope cl ml C) (oc1 ++ tl) ((x, el i) :: mlc) elt (.d (val i)) (oc1 ++ tl)))
    (hsw : swapsWith (.ListComp elt [⟨.Name x px, iter, ifs, 0⟩] scope pos) (some (.Name y py)) spos.line c.env = pure true := by rfl)
    (hcell : ∀ y ∈ scope.names, y.2 ≠ .cell := by decide) (hkind : scope.kind = .function := by rfl) (hnames : ∀ y ∈ scope.names, y.2 = .local → scope.names.lookup y.1 = some .local := by decide) (hx : scope.names.lookup x = some .local := by rfl)
    (hfs : ∀ x, foldedSetIterable iter c.env x = pure x := by intro _; rfl) :
    Sx G c oc ml (.Assign [.Name y py] (.ListComp elt [⟨.Name x px, iter, ifs, 0⟩] scope pos) spos) (.next oc1 (updm y (.d (.list (((List.range n).filter keep).map val))) ml)) := by
  intro tm s Q E hE S k
  rw [exec_Assign_Name_used _ _ _ _ hsw]
  refine wpAny_bind (wpAny_standAt (wpAny_bind ?_))
  show wpAny _ _ (do let _ ← comprehension (.ListComp elt [⟨.Name x px, iter, ifs, 0⟩] scope pos) scope c.env _ (newList []) false (eval iter c.env) (some (assign (.Name y py) c.env))) _ _ s
  refine wpAny_bind (wpAny_mono (comp_gen (Q := fun _ s' => Q .next s') (use := some (assign (.Name y py) c.env)) ok hi hclos hcell hkind hnames hx hs hsz S hb (fun h' tk' C D oC mm base hn S1 => ?_) hfs) (fun _ s' hq => wpAny_pure (wpAny_pure hq)) fun _ _ e => e)
  show wpAny _ _ (assign (.Name y py) c.env (.ref D)) _ _ _
  have S2 : St G c (((D, Cell.lst (((List.range n).filter keep).map val))) :: (oc1 ++ [(C, .raw oC)])) ml ((.ref D, .own D) :: (base ++ tm)) h' := by
    have p : (oc1 ++ [(D, Cell.lst (((List.range n).filter keep).map val)), (C, Cell.raw oC)]).Perm ((D, Cell.lst (((List.range n).filter keep).map val)) :: (oc1 ++ [(C, .raw oC)])) := List.perm_middle
    obtain ⟨m, own, fz, S2⟩ := S1.perm p
    exact ⟨m, own, fz, S2.tok rfl⟩
  obtain ⟨m, own, fz, S2⟩ := S2
  obtain ⟨own3, fz3, S3⟩ := S2.freeze (.inl rfl)
  refine wpAny_assign_Name (store_local ok hy ⟨m, own3, fz3, S3⟩ fun h2 tk2 S4 => ?_)
  obtain ⟨m, own, fz, S4⟩ := S4
  have hC : h2.get? C = some oC := by
    obtain ⟨o, h1, q⟩ := owns_mem S4.O (List.mem_append_right oc1 (.head _))
    obtain rfl : o = oC := q
    exact (S4.N _ (List.mem_append_left _ h1)).1
  refine ⟨mm, hn.ns hC, fun h3 hs3 => ?_⟩
  obtain ⟨own5, S5⟩ := S4.lessC ok hn (fun b ob hb e => hs3.extBut b ob hb e)
  rw [List.append_nil] at S5
  exact k h3 _ ⟨m, own5, fz, S5.tms fun x hx => List.mem_append_right _ hx⟩
end
end Mine
end
section
open PySem PySem.W PyProof.Rows PySem.Calls PySem.Spec
open PyProof.Rows.LCg (NsObj ns_obj)
namespace Mine
section
variable {G : Glo} {c : Cx} {oc oc1 oc2 oc3 oc' : List (Addr × Cell)} {ml ml1 ml2 ml' mlc : List (Str × Slot)} {tm base : List (Value × Slot)} {h h' : Heap} {m : Str → Option Value} {own fz : Led} {lev : Nat} {out : Out}

theorem bindL_other {k : Str → Option NameKind} {x : Str} : ∀ {bs : List (Str × Value)} {m : Str → Option Value}, (∀ p ∈ bs, p.1 ≠ x) → bindL k bs m x = m x
  | [], m, _ => rfl
  | (n, v) :: r, m, h => by
    have hn : n ≠ x := h _ (.head _)
    rw [bindL, bindL_other fun p hp => h p (.tail _ hp)]
    split
    · simp [Ne.symm hn]
    · rfl
theorem bindL_mem {k : Str → Option NameKind} {x : Str} {v : Value} (hx : k x = some .local) : ∀ {bs : List (Str × Value)} {m : Str → Option Value}, (bs.map (·.1)).Nodup → (x, v) ∈ bs → bindL k bs m x = some v
  | (n, w) :: r, m, hn, hm => by
    rw [List.map_cons, List.nodup_cons] at hn
    rcases List.mem_cons.mp hm with e | hm
    · cases e
      rw [bindL, bindL_other fun p hp e => hn.1 (List.mem_map.mpr ⟨p, hp, e⟩), if_pos hx]
      simp
    · rw [bindL]; exact bindL_mem hx hn.2 hm
theorem bindC_other {k : Str → Option NameKind} {x : Str} : ∀ {bs : List (Str × Value)} {m : Str → Option Value}, (∀ p ∈ bs, p.1 ≠ x) → bindC k bs m x = m x
  | [], m, _ => rfl
  | (n, v) :: r, m, h => by
    have hn : n ≠ x := h _ (.head _)
    rw [bindC, bindC_other fun p hp => h p (.tail _ hp)]
    split
    · rfl
    · simp [Ne.symm hn]
theorem bindC_mem {k : Str → Option NameKind} {x : Str} {v : Value} (hx : k x ≠ some .local) : ∀ {bs : List (Str × Value)} {m : Str → Option Value}, (bs.map (·.1)).Nodup → (x, v) ∈ bs → bindC k bs m x = some v
  | (n, w) :: r, m, hn, hm => by
    rw [List.map_cons, List.nodup_cons] at hn
    rcases List.mem_cons.mp hm with e | hm
    · cases e
      rw [bindC, bindC_other fun p hp e => hn.1 (List.mem_map.mpr ⟨p, hp, e⟩), if_neg hx]
      simp
    · rw [bindC]; exact bindC_mem hx hn.2 hm
theorem cellsAre_look {cm : Str → Option Value} {l : List (Str × Addr)} {cs : List (Addr × Obj)} (x : CellsAre cm l cs) {n : Str} {a : Addr} (h : l.lookup n = some a) : ∃ o, (a, o) ∈ cs ∧ o.data = .cell (cm n) := by
  induction x with
  | nil => cases h
  | @cons n' a' o' r cs' hd tl ih =>
    rw [List.lookup_cons] at h
    cases hb : n == n' with
    | true =>
      rw [hb] at h
      have e := eq_of_beq hb
      subst e
      cases h
      exact ⟨_, .head _, hd⟩
    | false =>
      rw [hb] at h
      obtain ⟨o, h1, h2⟩ := ih h
      exact ⟨o, .tail _ h1, h2⟩

noncomputable def rawOf (cs : Led) : List (Addr × Cell) := cs.map fun p => (p.1, .raw p.2)
theorem owns_raw : ∀ {cs : Led} {oc : List (Addr × Cell)} {own : Led}, Owns G fz oc own → Owns G fz (rawOf cs ++ oc) (cs ++ own)
  | [], _, _, h => h
  | _ :: _, _, _, h => ⟨rfl, rfl, owns_raw h⟩
theorem mem_rawOf {cs : Led} {a : Addr} {o : Obj} (h : (a, o) ∈ cs) : (a, Cell.raw o) ∈ rawOf cs := List.mem_map.mpr ⟨_, h, rfl⟩

theorem cellsFrom_snd : ∀ (names : List (Str × NameKind)) (n : Nat) (acc : List (Str × Addr)), (∀ p ∈ acc, p.2 < n) → (acc.map (·.2)).Nodup → ((cellsFrom n names acc).map (·.2)).Nodup ∧ ∀ p ∈ cellsFrom n names acc, p ∈ acc ∨ n ≤ p.2
  | [], _, acc, _, hn => ⟨hn, fun p hp => .inl hp⟩
  | (x, k) :: r, n, acc, ha, hn => by
    rw [cellsFrom]
    split
    · obtain ⟨h1, h2⟩ := cellsFrom_snd r (n + 1) ((x, n) :: acc) (fun p hp => by
        rcases List.mem_cons.mp hp with rfl | hp
        · exact Nat.lt_succ_self _
        · exact Nat.lt_succ_of_lt (ha p hp)) (by
        rw [List.map_cons, List.nodup_cons]
        refine ⟨fun hm => ?_, hn⟩
        obtain ⟨p, hp, e⟩ := List.mem_map.mp hm
        have := ha p hp
        rw [e] at this
        exact Nat.lt_irrefl _ this)
      refine ⟨h1, fun p hp => ?_⟩
      rcases h2 p hp with h | h
      · rcases List.mem_cons.mp h with rfl | h
        · exact .inr (Nat.le_refl _)
        · exact .inl h
      · exact .inr (Nat.le_of_succ_le h)
    · exact cellsFrom_snd r n acc ha hn
theorem lookup_in {α : Type} : ∀ {l : List (Str × α)} {x : Str} {a : α}, l.lookup x = some a → (x, a) ∈ l
  | (y, b) :: r, x, a, h => by
    rw [List.lookup_cons] at h
    cases hb : x == y with
    | true =>
      rw [hb] at h
      have e := eq_of_beq hb
      subst e
      cases h
      exact .head _
    | false =>
      rw [hb] at h
      exact .tail _ (lookup_in h)
theorem snd_inj {l : List (Str × Addr)} (hn : (l.map (·.2)).Nodup) {x y : Str} {a : Addr} (hx : (x, a) ∈ l) (hy : (y, a) ∈ l) : x = y := by
  induction l with
  | nil => cases hx
  | cons p r ih =>
    rw [List.map_cons, List.nodup_cons] at hn
    rcases List.mem_cons.mp hx with e1 | hx
    · rcases List.mem_cons.mp hy with e2 | hy
      · rw [← e1] at e2; exact (congrArg Prod.fst e2).symm
      · exact absurd (List.mem_map.mpr ⟨_, hy, by rw [← e1]⟩) hn.1
    · rcases List.mem_cons.mp hy with e2 | hy
      · exact absurd (List.mem_map.mpr ⟨_, hx, by rw [← e2]⟩) hn.1
      · exact ih hn.2 hx hy
theorem cellsAre_fst {cm : Str → Option Value} {l : List (Str × Addr)} {cs : Led} (x : CellsAre cm l cs) : cs.map (·.1) = l.map (·.2) := by
  induction x with
  | nil => rfl
  | cons _ _ ih => rw [List.map_cons, List.map_cons, ih]

theorem zip_fst {α : Type} : ∀ {names : List Str} {vs : List α}, (names.zip vs).map (·.1) = names.take vs.length
  | [], vs => by simp
  | n :: r, [] => by simp
  | n :: r, w :: ws => by simp only [List.zip_cons_cons, List.map_cons, List.length_cons, List.take_succ_cons]; exact congrArg (n :: ·) zip_fst
/-- the frame's state when a def with cells is entered -/
theorem enterC {qual : Str} {scope : Scope} {cdv : Value} {f : Addr} {names : List Str} {sls : List Slot} {vs : List Value} {g : Heap} {L' : Addr} {h₁ : Heap} {cells : Led} {oc : List (Addr × Cell)}
    (hl : vs.length = sls.length) (hn : names.Nodup) (hkn : ∀ x ∈ names, scope.names.lookup x = some .local ∨ (scope.names.lookup x = some .cell ∧ ∀ n, ((cellsFrom n scope.names []).lookup x).isSome = true))
    (O : Owns G fz oc own) (nd : (own.map (·.1)).Nodup) (ap : ∀ p ∈ own, ∀ q ∈ fz, p.1 ≠ q.1) (tmp : ∀ x ∈ vs.zip sls, SlotRel G fz x.1 x.2)
    (F' : Fr g L' h₁ (bindL (envOfC qual scope L' f cdv).kindOf (names.zip vs) fun _ => none)) (N' : News g L' h₁ (cells ++ (own ++ fz)))
    (Y : CellsAre (bindC (envOfC qual scope L' f cdv).kindOf (names.zip vs) fun _ => none) (cellsFrom (L' + 1) scope.names []) cells) (lt : ∀ p ∈ own ++ fz, p.1 < L') :
    ∃ m, St0 G (c.callee fz g L' (envOfC qual scope L' f cdv)) (rawOf cells ++ oc) (names.zip sls) [] h₁ m (cells ++ own) fz := by
  have hz : ((names.zip vs).map (·.1)).Nodup := by
    rw [zip_fst]
    exact (List.take_sublist _ _).nodup hn
  have cf := cellsFrom_snd scope.names (L' + 1) [] (fun _ h => nomatch h) .nil
  have cge : ∀ p ∈ cells, L' < p.1 := fun p hp => by
    have : p.1 ∈ (cellsFrom (L' + 1) scope.names []).map (·.2) := cellsAre_fst Y ▸ List.mem_map_of_mem hp
    obtain ⟨q, hq, e⟩ := List.mem_map.mp this
    rcases cf.2 q hq with h | h
    · cases h
    · have e : q.2 = p.1 := e
      exact Nat.lt_of_lt_of_le (Nat.lt_succ_self L') (e ▸ h)
  refine ⟨_, F', ?_, owns_raw O, ?_, ?_, fun x hx => hx, vs_of rfl fun x hx => ?_, fun x hx => nomatch hx⟩
  · rw [List.append_assoc]; exact N'
  · rw [List.map_append, List.nodup_append]
    refine ⟨by rw [cellsAre_fst Y]; exact cf.1, nd, fun x hx y hy e => ?_⟩
    obtain ⟨p, hp, rfl⟩ := List.mem_map.mp hx
    obtain ⟨q, hq, rfl⟩ := List.mem_map.mp hy
    have h1 := cge p hp
    have h2 := lt q (List.mem_append_left _ hq)
    have e : p.1 = q.1 := e
    exact Nat.lt_irrefl _ (Nat.lt_trans h1 (e ▸ h2))
  · intro p hp q hq e
    rcases List.mem_append.mp hp with hp | hp
    · have h1 := cge p hp
      have h2 := lt q (List.mem_append_right _ hq)
      have e : p.1 = q.1 := e
      exact Nat.lt_irrefl _ (Nat.lt_trans h1 (e ▸ h2))
    · exact ap p hp q hq e
  · obtain ⟨x, sl⟩ := x
    obtain ⟨v, h1, h2⟩ := zip_slot hl hx
    refine ⟨v, ?_, tmp _ h2⟩
    rcases hkn x (List.of_mem_zip hx).1 with hk | ⟨hk, hs⟩
    · exact .inl ⟨hk, rfl, bindL_mem hk hz h1⟩
    · obtain ⟨a, ha⟩ := Option.isSome_iff_exists.mp (hs (L' + 1))
      obtain ⟨o, ho, hd⟩ := cellsAre_look Y ha
      have hk' : (envOfC qual scope L' f cdv).kindOf x = some .cell := hk
      refine .inr (.inr ⟨.inl hk', a, o, ha, List.mem_append_left _ (mem_rawOf ho), ?_⟩)
      rw [hd, bindC_mem (by rw [hk']; intro e; cases e) hz h1]
theorem cells_inj {qual : Str} {scope : Scope} {cdv : Value} {f L' : Addr} : ∀ x y a, (envOfC qual scope L' f cdv).cells.lookup x = some a → (envOfC qual scope L' f cdv).cells.lookup y = some a → x = y := fun x y a hx hy =>
  snd_inj (cellsFrom_snd scope.names (L' + 1) [] (fun _ h => nomatch h) .nil).1 (lookup_in hx) (lookup_in hy)

theorem cal_defCN {name qual : Str} {params : Arguments} {body : List Stmt} {scope : Scope} {dV kV doc pm cdv ct oC : Value} {an od : Option Addr} {osl : Array (Option Value)} {f : Addr} {names : List Str} {sls : List Slot}
    (ok : c.Ok G (lev + 1))
    (ho : G.K.lookup f = some ⟨oC, od, .func (fnOf name qual params body scope dV kV doc pm an cdv ct), osl⟩) (hcd : codeIn G.K cdv qual = true)
    (hbind : ∀ (s : Shared) (vs : List Value), vs.length = names.length → BindsTo s (fnOf name qual params body scope dV kV doc pm an cdv ct) ⟨vs, []⟩ (names.zip vs))
    (hn : names.Nodup) (hln : sls.length = names.length) (hkn : ∀ x ∈ names, scope.names.lookup x = some .local ∨ (scope.names.lookup x = some .cell ∧ ∀ n, ((cellsFrom n scope.names []).lookup x).isSome = true))
    (hnd : ((cellsFrom 0 scope.names []).map (·.1)).Nodup)
    (hraw : ∀ a o, (a, Cell.raw o) ∈ oc → (a, Cell.raw o) ∈ oc')
    (hbody : ∀ fz g L' cells cm, (c.callee fz g L' (envOfC qual scope L' f cdv)).FOk G lev → CellsAre cm (cellsFrom (L' + 1) scope.names []) cells → ∃ pre ml', Ex G (c.callee fz g L' (envOfC qual scope L' f cdv)) (rawOf cells ++ oc) (names.zip sls) body (.next (pre ++ oc') ml'))
    (hco : scope.isCoroutine = false := by rfl) (hgen : scope.isGenerator = false := by rfl) (hk : scope.kind = .function := by rfl) :
    Cal G c oc ml (.ref f) sls (.d .none) oc' := by
  rintro tm s Q E vs hl ⟨m, own, fz, S⟩ k
  have hA : c.A.frames = some (c.fenv :: c.outer) := Around.frames_deeper ok.below.stack
  refine wpAny_call (callX_cells ok.below S.F S.N ((G.T.nolimit.keeps ok.sub)) hA ok.frame ok.fkind ((S.up ok).1 _ _ (G.X _ _ ho)) rfl (codeRec_of (G.X.keeps (S.up ok).1) hcd) ok.roomA
    (hbind s vs (hl.trans hln)) (fun n y hy => (hkn _ (List.of_mem_zip hy).1).imp id fun h => ⟨h.1, h.2 n⟩) hnd (fun g L' h₁ tk cells FG F' N' Y B' st lt => ?_) hco hgen hk)
  have ok' := callee_ok (fz := fz) (L' := L') (env := envOfC qual scope L' f cdv) ok B' hk rfl rfl rfl rfl cells_inj
  obtain ⟨m1, S1⟩ := enterC (c := c) hl hn hkn S.O S.nd S.ap (fun x hx => S.tmp x (List.mem_append_left _ hx)) F' N' Y lt
  obtain ⟨pre, mlx, hbody⟩ := hbody fz g L' cells _ ok' Y
  refine hbody [] _ _ _ PassesOwn.leaving ⟨m1, _, fz, S1⟩ ?_
  intro h' tk' S'
  obtain ⟨m', own', fz', S'⟩ := S'
  obtain ⟨own', S'⟩ := (S'.mls (ml' := []) (fun _ h => nomatch h)).drop rfl
  refine leaveK_ S'.F S'.N fun F2 N2 => ?_
  refine k .none h' tk' ⟨m, own', fz', ?_⟩
  have z := St0.back S F2 N2 S'.O S'.nd S'.ap S'.sub hraw
  exact z.put (fun x hx => List.mem_append_right _ hx) RV.none

theorem cal_defC {name qual : Str} {params : Arguments} {body : List Stmt} {scope : Scope} {dV kV doc pm cdv ct oC : Value} {an od : Option Addr} {osl : Array (Option Value)} {f : Addr} {names : List Str} {sls : List Slot} {sl : Slot}
    (ok : c.Ok G (lev + 1))
    (ho : G.K.lookup f = some ⟨oC, od, .func (fnOf name qual params body scope dV kV doc pm an cdv ct), osl⟩) (hcd : codeIn G.K cdv qual = true)
    (hbind : ∀ (s : Shared) (vs : List Value), vs.length = names.length → BindsTo s (fnOf name qual params body scope dV kV doc pm an cdv ct) ⟨vs, []⟩ (names.zip vs))
    (hn : names.Nodup) (hln : sls.length = names.length) (hkn : ∀ x ∈ names, scope.names.lookup x = some .local ∨ (scope.names.lookup x = some .cell ∧ ∀ n, ((cellsFrom n scope.names []).lookup x).isSome = true))
    (hnd : ((cellsFrom 0 scope.names []).map (·.1)).Nodup)
    (hraw : ∀ a o, (a, Cell.raw o) ∈ oc → (a, Cell.raw o) ∈ oc')
    (hbody : ∀ fz g L' cells cm, (c.callee fz g L' (envOfC qual scope L' f cdv)).FOk G lev → CellsAre cm (cellsFrom (L' + 1) scope.names []) cells → Ex G (c.callee fz g L' (envOfC qual scope L' f cdv)) (rawOf cells ++ oc) (names.zip sls) body (.ret sl oc'))
    (hco : scope.isCoroutine = false := by rfl) (hgen : scope.isGenerator = false := by rfl) (hk : scope.kind = .function := by rfl) :
    Cal G c oc ml (.ref f) sls sl oc' := by
  rintro tm s Q E vs hl ⟨m, own, fz, S⟩ k
  have hA : c.A.frames = some (c.fenv :: c.outer) := Around.frames_deeper ok.below.stack
  refine wpAny_call (callX_cells ok.below S.F S.N ((G.T.nolimit.keeps ok.sub)) hA ok.frame ok.fkind ((S.up ok).1 _ _ (G.X _ _ ho)) rfl (codeRec_of (G.X.keeps (S.up ok).1) hcd) ok.roomA
    (hbind s vs (hl.trans hln)) (fun n y hy => (hkn _ (List.of_mem_zip hy).1).imp id fun h => ⟨h.1, h.2 n⟩) hnd (fun g L' h₁ tk cells FG F' N' Y B' st lt => ?_) hco hgen hk)
  have ok' := callee_ok (fz := fz) (L' := L') (env := envOfC qual scope L' f cdv) ok B' hk rfl rfl rfl rfl cells_inj
  obtain ⟨m1, S1⟩ := enterC (c := c) hl hn hkn S.O S.nd S.ap (fun x hx => S.tmp x (List.mem_append_left _ hx)) F' N' Y lt
  refine hbody fz g L' cells _ ok' Y [] _ _ _ PassesOwn.leaving ⟨m1, _, fz, S1⟩ ?_
  intro v h' tk' S'
  obtain ⟨m', own', fz', S'⟩ := S'
  refine leaveK_ S'.F S'.N fun F2 N2 => ?_
  refine k v h' tk' ⟨m, own', fz', ?_⟩
  have z := St0.back S F2 N2 S'.O S'.nd S'.ap S'.sub hraw
  exact z.put (fun x hx => List.mem_append_right _ hx) (S'.tmp _ (.head _))

theorem cal_defCX {name qual : Str} {params : Arguments} {body : List Stmt} {scope : Scope} {dV kV doc pm cdv ct oC : Value} {an od : Option Addr} {osl : Array (Option Value)} {f : Addr} {names : List Str} {sls : List Slot}
    (ok : c.Ok G (lev + 1))
    (ho : G.K.lookup f = some ⟨oC, od, .func (fnOf name qual params body scope dV kV doc pm an cdv ct), osl⟩) (hcd : codeIn G.K cdv qual = true)
    (hbind : ∀ (s : Shared) (vs : List Value), vs.length = names.length → BindsTo s (fnOf name qual params body scope dV kV doc pm an cdv ct) ⟨vs, []⟩ (names.zip vs))
    (hn : names.Nodup) (hln : sls.length = names.length) (hkn : ∀ x ∈ names, scope.names.lookup x = some .local ∨ (scope.names.lookup x = some .cell ∧ ∀ n, ((cellsFrom n scope.names []).lookup x).isSome = true))
    (hnd : ((cellsFrom 0 scope.names []).map (·.1)).Nodup)
    (hraw : ∀ a o, (a, Cell.raw o) ∈ oc → (a, Cell.raw o) ∈ oc')
    (hbody : ∀ fz g L' cells cm, (c.callee fz g L' (envOfC qual scope L' f cdv)).FOk G lev → CellsAre cm (cellsFrom (L' + 1) scope.names []) cells → ∃ pre ml', Ex G (c.callee fz g L' (envOfC qual scope L' f cdv)) (rawOf cells ++ oc) (names.zip sls) body (.exc (pre ++ oc') ml'))
    (hco : scope.isCoroutine = false := by rfl) (hgen : scope.isGenerator = false := by rfl) (hk : scope.kind = .function := by rfl) :
    CalX G c oc ml (.ref f) sls oc' := by
  rintro tm s Q E vs hl ⟨m, own, fz, S⟩ k
  have hA : c.A.frames = some (c.fenv :: c.outer) := Around.frames_deeper ok.below.stack
  refine wpAny_call (callX_cells ok.below S.F S.N ((G.T.nolimit.keeps ok.sub)) hA ok.frame ok.fkind ((S.up ok).1 _ _ (G.X _ _ ho)) rfl (codeRec_of (G.X.keeps (S.up ok).1) hcd) ok.roomA
    (hbind s vs (hl.trans hln)) (fun n y hy => (hkn _ (List.of_mem_zip hy).1).imp id fun h => ⟨h.1, h.2 n⟩) hnd (fun g L' h₁ tk cells FG F' N' Y B' st lt => ?_) hco hgen hk)
  have ok' := callee_ok (fz := fz) (L' := L') (env := envOfC qual scope L' f cdv) ok B' hk rfl rfl rfl rfl cells_inj
  obtain ⟨m1, S1⟩ := enterC (c := c) hl hn hkn S.O S.nd S.ap (fun x hx => S.tmp x (List.mem_append_left _ hx)) F' N' Y lt
  obtain ⟨pre, mlx, hbody⟩ := hbody fz g L' cells _ ok' Y
  refine hbody [] _ _ _ PassesOwn.leaving ⟨m1, _, fz, S1⟩ ?_
  intro e h' tk' X
  refine leave_exc (c := c.callee fz g L' (envOfC qual scope L' f cdv)) ok'.toOk X fun h2 own' fz' R up O nd ap sub => ?_
  obtain ⟨o1, o2, e12, O2⟩ := owns_drop O
  subst e12
  refine k e h2 tk' (⟨g, m, o2, fz', FG, R.less (fun p hp => ?_), up, O2, ?_, fun p hp => ap p (List.mem_append_right _ hp), fun x hx => sub _ (S.sub x hx), fun x hx => ?_⟩)
  · rw [List.append_assoc]; exact List.mem_append_right _ hp
  · rw [List.map_append, List.nodup_append] at nd; exact nd.2.1
  · obtain ⟨v, a, r⟩ := S.V1 x hx
    exact ⟨v, a.keep hraw, r.more sub⟩
theorem cal_defN {name qual : Str} {params : Arguments} {body : List Stmt} {scope : Scope} {dV kV doc pm cdv ct oC : Value} {an od : Option Addr} {osl : Array (Option Value)} {f : Addr} {names : List Str} {sls : List Slot}
    (ok : c.Ok G (lev + 1))
    (ho : G.K.lookup f = some ⟨oC, od, .func (fnOf name qual params body scope dV kV doc pm an cdv ct), osl⟩) (hcd : codeIn G.K cdv qual = true)
    (hbind : ∀ (s : Shared) (vs : List Value), vs.length = names.length → BindsTo s (fnOf name qual params body scope dV kV doc pm an cdv ct) ⟨vs, []⟩ (names.zip vs))
    (hn : names.Nodup) (hln : sls.length = names.length) (hloc : ∀ x ∈ names, scope.names.lookup x = some .local)
    (hraw : ∀ a o, (a, Cell.raw o) ∈ oc → (a, Cell.raw o) ∈ oc')
    (hbody : ∀ fz g L', (c.callee fz g L' (envOf qual scope L' f cdv)).FOk G lev → ∃ pre ml', Ex G (c.callee fz g L' (envOf qual scope L' f cdv)) oc (names.zip sls) body (.next (pre ++ oc') ml'))
    (hco : scope.isCoroutine = false := by rfl) (hgen : scope.isGenerator = false := by rfl) (hk : scope.kind = .function := by rfl) (hcell : ∀ x ∈ scope.names, x.2 ≠ .cell := by decide) :
    Cal G c oc ml (.ref f) sls (.d .none) oc' := by
  rintro tm s Q E vs hl ⟨m, own, fz, S⟩ k
  have hA : c.A.frames = some (c.fenv :: c.outer) := Around.frames_deeper ok.below.stack
  refine wpAny_call (callX_plain (cl := []) ok.below S.F S.N ((G.T.nolimit.keeps ok.sub)) hA ok.frame ok.fkind ((S.up ok).1 _ _ (G.X _ _ ho)) rfl (codeRec_of (G.X.keeps (S.up ok).1) hcd) ok.roomA
    (hbind s vs (hl.trans hln)) (fun y hy => hloc _ (List.of_mem_zip hy).1) (fun g L' h₁ FG F' N' B' st lt => ?_) hcell hco hgen hk)
  have ok' := callee_ok (fz := fz) (L' := L') (env := envOf qual scope L' f cdv) ok B' hk rfl rfl rfl rfl (fun x y a e _ => by simp [envOf] at e)
  obtain ⟨pre, mlx, hbody⟩ := hbody fz g L' ok'
  refine hbody [] _ _ _ PassesOwn.leaving ⟨_, own, fz, F', N', S.O, S.nd, S.ap, fun x hx => hx, vs_of rfl fun x hx => ?_, fun x hx => nomatch hx⟩ ?_
  · obtain ⟨x, sl⟩ := x
    obtain ⟨v, h1, h2⟩ := zip_slot (hl) hx
    refine ⟨v, .inl ⟨hloc x (List.of_mem_zip hx).1, rfl, lookup_zip hn h1⟩, S.tmp _ (List.mem_append_left _ h2)⟩
  · intro h' tk' S'
    obtain ⟨m', own', fz', S'⟩ := S'
    obtain ⟨own', S'⟩ := (S'.mls (ml' := []) (fun _ h => nomatch h)).drop rfl
    refine leaveK_ S'.F S'.N fun F2 N2 => ?_
    refine k .none h' tk' ⟨m, own', fz', ?_⟩
    have z := St0.back S F2 N2 S'.O S'.nd S'.ap S'.sub hraw
    exact z.put (fun x hx => List.mem_append_right _ hx) RV.none

/-- a call that gives none, or raises -/
noncomputable def CalB (G : Glo) (c : Cx) (oc : List (Addr × Cell)) (ml : List (Str × Slot)) (f : Value) (sls : List Slot) (oc' : List (Addr × Cell)) (bad : Bool) : Prop := (bad = false → Cal G c oc ml f sls (.d .none) oc') ∧ (bad = true → CalX G c oc ml f sls oc')
theorem cal_defCB {name qual : Str} {params : Arguments} {body : List Stmt} {scope : Scope} {dV kV doc pm cdv ct oC : Value} {an od : Option Addr} {osl : Array (Option Value)} {f : Addr} {names : List Str} {sls : List Slot} {bad : Bool}
    (ok : c.Ok G (lev + 1))
    (ho : G.K.lookup f = some ⟨oC, od, .func (fnOf name qual params body scope dV kV doc pm an cdv ct), osl⟩) (hcd : codeIn G.K cdv qual = true)
    (hbind : ∀ (s : Shared) (vs : List Value), vs.length = names.length → BindsTo s (fnOf name qual params body scope dV kV doc pm an cdv ct) ⟨vs, []⟩ (names.zip vs))
    (hn : names.Nodup) (hln : sls.length = names.length) (hkn : ∀ x ∈ names, scope.names.lookup x = some .local ∨ (scope.names.lookup x = some .cell ∧ ∀ n, ((cellsFrom n scope.names []).lookup x).isSome = true))
    (hnd : ((cellsFrom 0 scope.names []).map (·.1)).Nodup)
    (hraw : ∀ a o, (a, Cell.raw o) ∈ oc → (a, Cell.raw o) ∈ oc')
    (hbody : ∀ fz g L' cells cm, (c.callee fz g L' (envOfC qual scope L' f cdv)).FOk G lev → CellsAre cm (cellsFrom (L' + 1) scope.names []) cells → ∃ pre ml', Ex G (c.callee fz g L' (envOfC qual scope L' f cdv)) (rawOf cells ++ oc) (names.zip sls) body (if bad then .exc (pre ++ oc') ml' else .next (pre ++ oc') ml'))
    (hco : scope.isCoroutine = false := by rfl) (hgen : scope.isGenerator = false := by rfl) (hk : scope.kind = .function := by rfl) :
    CalB G c oc ml (.ref f) sls oc' bad := by
  refine ⟨fun hb => ?_, fun hb => ?_⟩
  · subst hb; exact cal_defCN ok ho hcd hbind hn hln hkn hnd hraw hbody hco hgen hk
  · subst hb; exact cal_defCX ok ho hcd hbind hn hln hkn hnd hraw hbody hco hgen hk
theorem cal_defB {name qual : Str} {params : Arguments} {body : List Stmt} {scope : Scope} {dV kV doc pm cdv ct oC : Value} {an od : Option Addr} {osl : Array (Option Value)} {f : Addr} {names : List Str} {sls : List Slot} {bad : Bool}
    (ok : c.Ok G (lev + 1))
    (ho : G.K.lookup f = some ⟨oC, od, .func (fnOf name qual params body scope dV kV doc pm an cdv ct), osl⟩) (hcd : codeIn G.K cdv qual = true)
    (hbind : ∀ (s : Shared) (vs : List Value), vs.length = names.length → BindsTo s (fnOf name qual params body scope dV kV doc pm an cdv ct) ⟨vs, []⟩ (names.zip vs))
    (hn : names.Nodup) (hln : sls.length = names.length) (hloc : ∀ x ∈ names, scope.names.lookup x = some .local)
    (hraw : ∀ a o, (a, Cell.raw o) ∈ oc → (a, Cell.raw o) ∈ oc')
    (hbody : ∀ fz g L', (c.callee fz g L' (envOf qual scope L' f cdv)).FOk G lev → ∃ pre ml', Ex G (c.callee fz g L' (envOf qual scope L' f cdv)) oc (names.zip sls) body (if bad then .exc (pre ++ oc') ml' else .next (pre ++ oc') ml'))
    (hco : scope.isCoroutine = false := by rfl) (hgen : scope.isGenerator = false := by rfl) (hk : scope.kind = .function := by rfl) (hcell : ∀ x ∈ scope.names, x.2 ≠ .cell := by decide) :
    CalB G c oc ml (.ref f) sls oc' bad := by
  refine ⟨fun hb => ?_, fun hb => ?_⟩
  · subst hb; exact cal_defN ok ho hcd hbind hn hln hloc hraw hbody hco hgen hk hcell
  · subst hb; exact cal_defX ok ho hcd hbind hn hln hloc hraw hbody hco hgen hk hcell
/-- a call that gives a value, or raises -/
noncomputable def CalO (G : Glo) (c : Cx) (oc : List (Addr × Cell)) (ml : List (Str × Slot)) (f : Value) (sls : List Slot) (oc' : List (Addr × Cell)) : Option Slot → Prop
  | some sl => Cal G c oc ml f sls sl oc'
  | none => CalX G c oc ml f sls oc'
theorem cal_defR {name qual : Str} {params : Arguments} {body : List Stmt} {scope : Scope} {dV kV doc pm cdv ct oC : Value} {an od : Option Addr} {osl : Array (Option Value)} {f : Addr} {names : List Str} {sls : List Slot} {r : Option Slot}
    (ok : c.Ok G (lev + 1))
    (ho : G.K.lookup f = some ⟨oC, od, .func (fnOf name qual params body scope dV kV doc pm an cdv ct), osl⟩) (hcd : codeIn G.K cdv qual = true)
    (hbind : ∀ (s : Shared) (vs : List Value), vs.length = names.length → BindsTo s (fnOf name qual params body scope dV kV doc pm an cdv ct) ⟨vs, []⟩ (names.zip vs))
    (hn : names.Nodup) (hln : sls.length = names.length) (hloc : ∀ x ∈ names, scope.names.lookup x = some .local)
    (hraw : ∀ a o, (a, Cell.raw o) ∈ oc → (a, Cell.raw o) ∈ oc')
    (hbody : ∀ fz g L', (c.callee fz g L' (envOf qual scope L' f cdv)).FOk G lev → ∃ pre ml', Ex G (c.callee fz g L' (envOf qual scope L' f cdv)) oc (names.zip sls) body (match r with | some sl => .ret sl oc' | none => .exc (pre ++ oc') ml'))
    (hco : scope.isCoroutine = false := by rfl) (hgen : scope.isGenerator = false := by rfl) (hk : scope.kind = .function := by rfl) (hcell : ∀ x ∈ scope.names, x.2 ≠ .cell := by decide) :
    CalO G c oc ml (.ref f) sls oc' r := by
  cases r with
  | some sl => exact cal_def ok ho hcd hbind hn hln hloc hraw (fun fz g L' o => let ⟨_, _, h⟩ := hbody fz g L' o; h) hco hgen hk hcell
  | none => exact cal_defX ok ho hcd hbind hn hln hloc hraw hbody hco hgen hk hcell
end
end Mine
end
section
open PySem PySem.W PyProof.Rows PySem.Calls PySem.Spec
set_option maxRecDepth 100000
namespace Mine
section
variable {G : Glo} {c : Cx} {oc oc1 oc2 oc3 oc' : List (Addr × Cell)} {ml ml1 ml2 ml' : List (Str × Slot)} {tm : List (Value × Slot)} {h h' : Heap} {m : Str → Option Value} {own fz : Led} {lev : Nat} {out : Out}

theorem ev_callK {x : Str} {p pos : Pos} {e : Expr} {es : List Expr} {f : Addr} {sls : List Slot} {sl : Slot} (ok : c.Ok G lev) (h0 : Ev G c oc ml (.Name x p) (.raw (.ref f)) oc) (hk : keepIn G.K (.ref f) = true)
    (h1 : EvL G c oc ml (e :: es) sls oc1) (h2 : Cal G c oc1 ml (.ref f) sls sl oc2) (he : starEach (e :: es) c.env = (false, eval e c.env) :: starEach es c.env := by rfl) (hplain : (backTo pos (starEach es c.env)).any (·.1) = false := by rfl) : Ev G c oc ml (.Call (.Name x p) (e :: es) [] pos) sl oc2 := by
  intro tm s Q E S k
  refine Call_ (h0 tm s _ E S fun v g t S1 => ?_)
  obtain rfl : v = .ref f := by obtain ⟨_, _, _, S1⟩ := S1; exact S1.tmp _ (.head _)
  have X : G.K.In g := by obtain ⟨_, _, _, S1⟩ := S1; exact G.X.keeps (S1.up ok).1
  refine callWith_K X hk (h1 pos tm _ _ E (S1.tms sub1) fun vs g2 t2 hln S2 => ⟨?_, ?_⟩) he hplain
  · obtain ⟨m, own, fz, S2⟩ := S2
    exact G.X.keeps (S2.up ok).1
  · rw [List.nil_append]
    exact h2 tm _ Q E vs hln S2 k

theorem ev_callKX {x : Str} {p pos : Pos} {e : Expr} {es : List Expr} {f : Addr} {sls : List Slot} (ok : c.Ok G lev) (h0 : Ev G c oc ml (.Name x p) (.raw (.ref f)) oc) (hk : keepIn G.K (.ref f) = true)
    (h1 : EvL G c oc ml (e :: es) sls oc1) (h2 : CalX G c oc1 ml (.ref f) sls oc2) (he : starEach (e :: es) c.env = (false, eval e c.env) :: starEach es c.env := by rfl) (hplain : (backTo pos (starEach es c.env)).any (·.1) = false := by rfl) : EvX G c oc ml (.Call (.Name x p) (e :: es) [] pos) oc2 := by
  intro tm s Q E S k
  refine Call_ (h0 tm s _ E S fun v g t S1 => ?_)
  obtain rfl : v = .ref f := by obtain ⟨_, _, _, S1⟩ := S1; exact S1.tmp _ (.head _)
  have X : G.K.In g := by obtain ⟨_, _, _, S1⟩ := S1; exact G.X.keeps (S1.up ok).1
  refine callWith_K X hk (h1 pos tm _ _ E (S1.tms sub1) fun vs g2 t2 hln S2 => ⟨?_, ?_⟩) he hplain
  · obtain ⟨m, own, fz, S2⟩ := S2
    exact G.X.keeps (S2.up ok).1
  · rw [List.nil_append]
    exact h2 tm _ Q E vs hln S2 k
/-- a statement that is a call which gives none or raises -/
theorem ex_callB {x : Str} {p pos pos2 : Pos} {e : Expr} {es : List Expr} {f : Addr} {sls : List Slot} {bad : Bool} {rest : List Stmt} {out : Out} (ok : c.Ok G lev) (h0 : Ev G c oc ml (.Name x p) (.raw (.ref f)) oc) (hk : keepIn G.K (.ref f) = true)
    (h1 : EvL G c oc ml (e :: es) sls oc1) (h2 : CalB G c oc1 ml (.ref f) sls oc2 bad) (hg : bad = false → Ex G c oc2 ml rest out) (hb : bad = true → out = .exc oc2 ml)
    (hi : interactive c.env = false := by rfl) (hs : swapsWith (.Call (.Name x p) (e :: es) [] pos) none pos2.line c.env = pure false := by rfl) (he : starEach (e :: es) c.env = (false, eval e c.env) :: starEach es c.env := by rfl) (hplain : (backTo pos (starEach es c.env)).any (·.1) = false := by rfl) : Ex G c oc ml (.Expr (.Call (.Name x p) (e :: es) [] pos) pos2 :: rest) out := by
  cases hbad : bad with
  | false => exact ex_cons (sx_expr (ev_callK ok h0 hk h1 (h2.1 hbad) he hplain) hi hs) (hg hbad)
  | true =>
    rw [hb hbad]
    exact ex_exc (sx_expr_x (ev_callKX ok h0 hk h1 (h2.2 hbad) he hplain) hi hs)

theorem sx_raise {x : Str} {t : Str} {k : Nat} {p p2 cpos pos : Pos} (I : G.Is) (ok : c.Ok G lev) (h0 : Ev G c oc ml (.Name x p) (.raw (.ref 44)) oc) (hst : starEach [Expr.Constant (.str t) k p2] c.env = [(false, eval (Expr.Constant (.str t) k p2) c.env)] := by rfl) : Sx G c oc ml (.Raise (some (.Call (.Name x p) [.Constant (.str t) k p2] [] cpos)) none pos) (.exc oc ml) := by
  intro tm s Q E hE S kk
  rw [arm_exec_Raise]
  refine wpAny_bind (wpAny_standAt ?_)
  refine raise_bad I ok.handA (wpAny_bind (Call_ (h0 tm s _ E S fun v g tk0 S1 => ?_)))
  obtain rfl : v = .ref 44 := by obtain ⟨_, _, _, S1⟩ := S1; exact S1.tmp _ (.head _)
  have S2 : St G c oc ml [] g := S1.tms (fun _ h => nomatch h)
  obtain ⟨m, own, fz, S2⟩ := S2
  have X : G.K.In g := G.X.keeps (S2.up ok).1
  refine callWith_K X (by rw [I.K]; kernel_rfl) (evl_cons (ev_str (x := t)) evl_nil hst cpos [] _ _ E ⟨m, own, fz, S2⟩ fun vs g2 t2 hln S3 => ?_) hst rfl
  obtain ⟨v, rfl⟩ := zip1 hln
  obtain ⟨m, own, fz, S3⟩ := S3
  obtain ⟨tk, rfl⟩ := rv_str (S3.tmp _ (.head _))
  have X2 : G.K.In g2 := G.X.keeps (S3.up ok).1
  refine ⟨X2, ?_⟩
  rw [List.nil_append]
  refine call_bad I X2 ok.handA ?_ ?_ fun e h' tk' Fz => wpAny_bind (wpAny_standAt (wpAny_pure ⟨g2, e, X2, rfl, Fz, ?_⟩))
  · show c.A₀.depth + 1 ≤ 405
    have := ok.dep; omega
  · show c.A₀.units + 3 ≤ 2010
    have := ok.units; omega
  · exact kk e h' tk' (.inl ⟨g2, m, own, fz, S3.tms (fun _ h => nomatch h), Fz⟩)
end
end Mine
end
section
open PySem PySem.W PyProof.Rows PySem.Calls PySem.Spec
namespace Mine
section
variable {G : Glo} {c : Cx} {oc oc1 oc2 oc3 oc' : List (Addr × Cell)} {ml ml1 ml2 ml' mlc : List (Str × Slot)} {tm base : List (Value × Slot)} {h h' : Heap} {m : Str → Option Value} {own fz : Led} {lev : Nat} {out : Out}

/-! ## targets that are tuples -/
noncomputable def TgtL (G : Glo) (c : Cx) (ts : List (Value → Sem Unit)) (sls : List Slot) (up : List (Str × Slot) → List (Str × Slot)) : Prop :=
  ∀ (oc : List (Addr × Cell)) (ml : List (Str × Slot)) (tm : List (Value × Slot)) (s : Shared) (Q : Unit → Shared → Prop) (E : Value → Shared → Prop) (vs : List Value), vs.length = sls.length → St G c oc ml (vs.zip sls ++ tm) s.heap →
    (∀ h' tk', St G c oc (up ml) tm h' → Q () { s with heap := h', toks := tk' }) → wpAny (model G.prog G.w) c.A (assignInOrder ts vs) Q E s
theorem tgtl_nil : TgtL G c [] [] id := by
  intro oc ml tm s Q E vs hl S k
  exact assignInOrder_nil (k _ _ (S.tms fun x hx => List.mem_append_right _ hx))
theorem tgtl_cons {t : Expr} {ts : List (Value → Sem Unit)} {sl : Slot} {sls : List Slot} {u1 u2 : List (Str × Slot) → List (Str × Slot)} (h1 : Tgt G c t sl u1) (h2 : TgtL G c ts sls u2) : TgtL G c (assign t c.env :: ts) (sl :: sls) (fun ml => u2 (u1 ml)) := by
  intro oc ml tm s Q E vs hl S k
  match vs, hl with
  | v :: vs, hl =>
    refine assignInOrder_cons (h1 oc ml (vs.zip sls ++ tm) s _ E v S fun h' tk' S1 => ?_)
    exact h2 oc _ tm _ Q E vs (by simpa using hl) S1 k
theorem zip_of_rvs : ∀ {vs : List Value} {ds : List PyData}, RVs G.H0 fz vs ds → ∀ x ∈ vs.zip (ds.map Slot.d), SlotRel G fz x.1 x.2
  | _, _, .nil, x, hx => nomatch hx
  | _, _, .cons r rs, x, hx => by
    rcases List.mem_cons.mp hx with rfl | hx
    · exact r
    · exact zip_of_rvs rs x hx
theorem tgt_tup {elts : List Expr} {k : Nat} {pos : Pos} {ds : List PyData} {up : List (Str × Slot) → List (Str × Slot)} {lev : Nat} (ok : c.Ok G lev) (ht : TgtL G c ((assignEach elts c.env).map (·.2)) (ds.map .d) up) (hn : (assignEach elts c.env).length = ds.length := by rfl) (hstar : (assignEach elts c.env).findIdx? (·.1) = none := by rfl) : Tgt G c (.Tuple elts k pos) (.d (.tuple ds)) up := by
  intro oc ml tm s Q E v S kk
  obtain ⟨m, own, fz, S⟩ := S
  obtain ⟨a, vs, rfl, hT, r⟩ := S.isTup ok (S.tmp _ (.head _))
  have hl := r.length
  refine assign_Tuple_tuple ok.hand hT (by rw [List.size_toArray, hl]; exact hn) hstar fun h' hs => ?_
  have up' : ∀ b ob, s.heap.get? b = some ob → h'.get? b = some ob := fun b ob e => hs b ob (Nat.ne_of_lt (Heap.lt_size e)) e
  have S1 := S.grow up'
  refine ht oc ml tm _ Q E vs (by rw [hl, List.length_map]) ⟨m, own, fz, ⟨S1.F, S1.N, S1.O, S1.nd, S1.ap, S1.sub, S1.V, fun x hx => ?_⟩⟩ kk
  rcases List.mem_append.mp hx with hx | hx
  · exact zip_of_rvs r x hx
  · exact S1.tmp x (.tail _ hx)
theorem sx_assign_tup {elts : List Expr} {k : Nat} {tpos pos : Pos} {e : Expr} {sl : Slot} {up : List (Str × Slot) → List (Str × Slot)} (h1 : Ev G c oc ml e sl oc1) (ht : Tgt G c (.Tuple elts k tpos) sl up)
    (hs : swapsWithSole [.Tuple elts k tpos] e pos.line c.env = pure false := by rfl) (hw : swappedStores [.Tuple elts k tpos] e c.env = pure none := by rfl) : Sx G c oc ml (.Assign [.Tuple elts k tpos] e pos) (.next oc1 (up ml)) := by
  intro tm s Q E hE S kk
  refine Assign_Tuple (h1 tm s _ E S fun v g t S1 => ?_) hs hw
  exact ht oc1 ml tm _ _ E v S1 fun h' tk' S2 => kk _ _ S2

/-! ## adding to a name -/
theorem sx_aug {x : Str} {p pos : Pos} {e : Expr} {a b : Int} (ok : c.FOk G lev) (hx : c.env.kindOf x = some .local) (hm : (x, .d (.int a)) ∈ ml) (h1 : Ev G c oc ml e (.d (.int b)) oc1) : Sx G c oc ml (.AugAssign (.Name x p) .Add e pos) (.next oc1 (updm x (.d (.int (a + b))) ml)) := by
  intro tm s Q E hE S kk
  have n1 : Ev G c oc ml (.Name x p) (.d (.int a)) oc → True := fun _ => trivial
  obtain ⟨m, own, fz, S⟩ := S
  have hL : c.env.locals = c.L := by rw [ok.same, ok.locs]
  obtain ⟨v, hv, r⟩ := S.V1 _ hm
  have hloc : m x = some v ∧ c.env.locals = c.L := by
    rcases hv with ⟨_, b, e⟩ | ⟨a, oC, m₂, b, e, f⟩ | ⟨a, _⟩
    · exact ⟨e, b⟩
    · exfalso
      obtain ⟨o', h1, _⟩ := owns_mem S.O b
      exact (S.N _ (List.mem_append_left _ h1)).2.1 hL
    · rcases a with a | a <;> (have hx : c.env.kindOf x = some .local := hx; have a : c.env.kindOf x = _ := a; rw [hx] at a; cases a)
  obtain ⟨t, rfl⟩ := rv_int r
  refine wpAny_AugAssign_Name (wpAny_loadName_local ok.kind hx (hL ▸ S.F.ns) hloc.1 ?_)
  refine h1 ((.int a t, .d (.int a)) :: tm) s _ E ⟨m, own, fz, S.tok (RV.int _ _)⟩ fun v2 g tk S2 => ?_
  obtain ⟨m2, own2, fz2, S2⟩ := S2
  obtain ⟨u, rfl⟩ := rv_int (S2.tmp _ (.head _))
  refine wpAny_iadd_int ?_
  exact store_local ok hx ⟨m2, own2, fz2, S2.put (tm' := tm) (sl := .d (.int (a + b))) (fun x hx => .tail _ (.tail _ hx)) (RV.int _ _)⟩ fun h' tk' S3 => kk _ _ S3

/-! ## lists of one's own -/
/-- the expression gives a new list that nobody else holds -/
noncomputable def EvO (G : Glo) (c : Cx) (oc : List (Addr × Cell)) (ml : List (Str × Slot)) (e : Expr) (ds : List PyData) (oc' : List (Addr × Cell)) : Prop :=
  ∀ (tm : List (Value × Slot)) (s : Shared) (Q : Value → Shared → Prop) (E : Value → Shared → Prop), St G c oc ml tm s.heap →
    (∀ a h' tk', St G c ((a, .lst ds) :: oc') ml ((.ref a, .own a) :: tm) h' → Q (.ref a) { s with heap := h', toks := tk' }) →
    wpAny (model G.prog G.w) c.A (eval e c.env) Q E s
theorem EvO.ev {e : Expr} {ds : List PyData} (h1 : EvO G c oc ml e ds oc1) : Ev G c oc ml e (.d (.list ds)) oc1 := by
  intro tm s Q E S k
  refine h1 tm s Q E S fun a h' tk' S1 => ?_
  obtain ⟨m, own, fz, S1⟩ := S1
  obtain ⟨own2, fz2, S2⟩ := S1.freeze (.inl rfl)
  exact k _ h' tk' ⟨m, own2, fz2, S2⟩
theorem St0.newList (S : St0 G c oc ml tm h m own fz) {a : Addr} {vs : List Value} {nn : Nat} {ds : List PyData} (F' : Fr c.h₀ c.L h' m) (N' : News c.h₀ c.L h' ((a, listObj vs nn) :: (own ++ fz))) (hn : h.get? a = none) (r : RVs G.H0 fz vs ds) : St G c ((a, .lst ds) :: oc) ml ((.ref a, .own a) :: tm) h' := by
  have lt : ∀ p ∈ own ++ fz, p.1 ≠ a := fun p hp e => by have := (S.N p hp).1; rw [e, hn] at this; cases this
  refine ⟨m, (a, listObj vs nn) :: own, fz, F', N', ⟨rfl, ⟨vs, nn, rfl, r⟩, S.O⟩, ?_, ?_, S.sub, fun el hel x hx => ?_, fun x hx => ?_⟩
  · rw [List.map_cons, List.nodup_cons]
    refine ⟨fun hm => ?_, S.nd⟩
    obtain ⟨p, hp, e⟩ := List.mem_map.mp hm
    exact lt p (List.mem_append_left _ hp) e
  · intro p hp q hq
    rcases List.mem_cons.mp hp with rfl | hp
    · exact fun e => lt q (List.mem_append_right _ hq) e.symm
    · exact S.ap p hp q hq
  · obtain ⟨v, hv, r⟩ := S.V el hel x hx
    exact ⟨v, hv.keep fun b ob e => .tail _ e, r⟩
  · rcases List.mem_cons.mp hx with rfl | hx
    · rfl
    · exact S.tmp x hx
theorem evo_list {es : List Expr} {pos : Pos} {ds : List PyData} (h1 : EvLd G c oc ml es ds oc1) (hsz : ds.length ≤ 10000 := by first | decide | simp) : EvO G c oc ml (.List es pos) ds oc1 := by
  intro tm s Q E S kk
  refine List_ (h1 pos tm s _ E S fun vs g1 t1 hl S1 => ?_)
  obtain ⟨m, own, fz, S1⟩ := S1
  rw [List.length_map] at hl
  refine newList_N S1.F S1.N (fun h' F' N' => ?_) (sz_ok (hl ▸ hsz))
  have r := rvs_of_zip (G := G) hl fun x hx => S1.tmp x (List.mem_append_left _ hx)
  exact kk _ h' t1 (St0.newList (nn := 0) (S1.tms fun x hx => List.mem_append_right _ hx) F' N' (size_none _) r)
/-- a list times a number -/
theorem evo_mul {e1 e2 : Expr} {pos : Pos} {ds : List PyData} {n : Nat} (ok : c.Ok G lev) (h1 : EvO G c oc ml e1 ds oc1) (h2 : ∀ oc', Ev G c oc' ml e2 (.d (.int n)) oc') (hne : ds ≠ []) (hsz : ds.length * n ≤ 10000) (hn : n ≤ 10000) : EvO G c oc ml (.BinOp e1 .Mult e2 pos) (List.replicate n ds).flatten oc1 := by
  intro tm s Q E S kk
  refine wpAny_BinOp (h1 tm s _ E S fun a g1 t1 S1 => ?_)
  refine h2 _ _ _ _ E S1 fun v2 g2 t2 S2 => ?_
  obtain ⟨m, own, fz, S2⟩ := S2
  obtain ⟨u, rfl⟩ := rv_int (S2.tmp _ (.head _))
  obtain ⟨o, ho, vs, nn, rfl, r⟩ := owns_mem S2.O (.head _)
  have hl := r.length
  refine mul_list S2.F S2.N (S2.N _ (List.mem_append_left _ ho)).1 (by omega) (by omega) (by
    show vs.toArray.size * (n : Int).toNat ≤ 2 ^ 24
    rw [List.size_toArray, hl, Int.toNat_natCast]; omega) fun h' F' N' => ?_
  have he : vs.toArray.isEmpty = false := by
    cases vs with
    | nil => cases ds with
      | nil => exact absurd rfl hne
      | cons => simp at hl
    | cons => simp
  have hf : List.foldl (fun x1 x2 => x1 ++ x2) #[] (List.replicate (if vs.toArray.isEmpty = true then 0 else (n : Int).toNat) vs.toArray) = (List.replicate n vs).flatten.toArray := by
    rw [he, if_neg Bool.false_ne_true, Int.toNat_natCast]
    have gen : ∀ (k : Nat) (acc : Array Value), List.foldl (fun x1 x2 => x1 ++ x2) acc (List.replicate k vs.toArray) = acc ++ (List.replicate k vs).flatten.toArray := by
      intro k
      induction k with
      | zero => intro acc; simp
      | succ k ih => intro acc; rw [List.replicate_succ, List.foldl_cons, ih, List.replicate_succ, List.flatten_cons]; simp
    rw [gen]; simp
  rw [hf] at N'
  have rep : ∀ k : Nat, RVs G.H0 fz (List.replicate k vs).flatten (List.replicate k ds).flatten := by
    intro k
    induction k with
    | zero => exact .nil
    | succ k ih => rw [List.replicate_succ, List.replicate_succ, List.flatten_cons, List.flatten_cons]; exact r.append ih
  obtain ⟨m3, own3, fz3, S3⟩ := St0.newList (nn := 0) (S2.tms (tm' := tm) fun x hx => .tail _ (.tail _ hx)) F' N' (size_none _) (rep n)
  have S4 := S3.less (pre := [(g2.objs.size, .lst (List.replicate n ds).flatten)]) (h' := h') (fun _ e => nomatch e) (fun _ _ _ e => e)
  obtain ⟨own4, S4⟩ := S4
  exact kk _ h' t2 ⟨m3, own4, fz3, S4⟩
theorem ex_assign_own {x : Str} {p pos : Pos} {e : Expr} {rest : List Stmt} {ds : List PyData} (ok : c.FOk G lev) (hx : c.env.kindOf x = some .local) (h1 : EvO G c oc ml e ds oc1) (h2 : ∀ a, Ex G c ((a, .lst ds) :: oc1) (updm x (.own a) ml) rest out) (hs : swapsWith e (some (.Name x p)) pos.line c.env = pure false := by rfl) : Ex G c oc ml (.Assign [.Name x p] e pos :: rest) out := by
  intro tm s Q E hE S k
  refine wpAny_execs_cons (wpAny_Assign_Name (h1 tm s _ E S fun a g t S1 => ?_) hs)
  refine store_local ok hx S1 fun h' tk' S2 => ?_
  refine h2 a tm _ Q E hE S2 ?_
  cases out <;> exact k
/-- l.append(e) -/
theorem ev_append {e2 : Expr} {x : Str} {np apos pos : Pos} {a : Addr} {pre post : List (Addr × Cell)} {ds : List PyData} {d : PyData} {pl : Sem Bool} (ok : c.Ok G lev) (hm : (x, .own a) ∈ ml) (hcell : (a, .lst ds) ∈ oc) (h1 : Ev G c oc ml e2 (.d d) (pre ++ (a, .lst ds) :: post)) (hsz : ds.length ≤ 10000)
    (hd : (x == ("__debug__" : Str)) = false := by decide) (hc : (x == ("__classdict__" : Str)) = false := by decide)
    (he : eval (.Call (.Attribute (.Name x np) (Str.ofString "append") apos) [e2] [] pos) c.env = (do
      let ov ← eval (.Name x np) c.env
      standAt apos.atName
      let (f, first) ← holding [ov] (getMethod ov (Str.ofString "append") pl)
      callWith pos f first (backTo pos (starEach [e2] c.env)) []) := by rfl)
    (hst : starEach [e2] c.env = [(false, eval e2 c.env)] := by rfl) :
    Ev G c oc ml (.Call (.Attribute (.Name x np) (Str.ofString "append") apos) [e2] [] pos) (.d .none) (pre ++ (a, .lst (ds ++ [d])) :: post) := by
  intro tm s Q E S k
  refine MethodCall_ (ev_name (pos := np) ok hm hd hc tm s _ E S fun v g t S1 => ?_) he
  have S1' := S1
  obtain ⟨m, own, fz, S1⟩ := S1
  obtain rfl : v = .ref a := S1.tmp _ (.head _)
  obtain ⟨o, ho, vs, nn, rfl, r⟩ := owns_mem S1.O hcell
  have ho := (S1.N _ (List.mem_append_left _ ho)).1
  refine getMethod_builtin ⟨_, ho, rfl⟩ PySem.F.plainAttrs_list PySem.F.slot_list_append PySem.F.type_list_append (fun b e => by cases e; exact ⟨_, ho, rfl⟩) ?_
  rw [hst]
  show wpAny _ _ (callWith pos (.builtin "list.append") [.ref a] [(false, eval e2 c.env)] []) Q E _
  refine P.append_list (h1 _ _ _ E S1' fun v g2 t2 S2 => ?_)
  obtain ⟨m2, own2, fz2, S2⟩ := S2
  obtain ⟨o2, ho2, ⟨vs2, n2, rfl, r2⟩, kset⟩ := S2.set (fun _ e => nomatch e)
  refine ⟨vs2.toArray, n2, by rw [List.size_toArray, r2.length]; exact sz_ok hsz, ho2, ?_⟩
  have hself := Heap.get?_update_self (Obj.mapSeq fun xs => xs.push v) ho2 rfl
  obtain ⟨own3, S3⟩ := kset (.lst (ds ++ [d])) _ _ (fun b ob hb e => (Heap.get?_update_other _ _ (Ne.symm hb)).trans e) hself ⟨vs2 ++ [v], n2 + 1, by simp [listObj, Obj.mapSeq], r2.append (.cons (S2.tmp _ (.head _)) .nil)⟩
  exact k _ _ t2 ⟨m2, own3, fz2, S3.put (fun x hx => .tail _ (.tail _ hx)) RV.none⟩
/-- l.pop() -/
theorem ev_pop {x : Str} {np apos pos : Pos} {a : Addr} {pre post : List (Addr × Cell)} {ds : List PyData} {d : PyData} {pl : Sem Bool} (ok : c.Ok G lev) (hm : (x, .own a) ∈ ml) (hsz : ds.length ≤ 10000)
    (hd : (x == ("__debug__" : Str)) = false := by decide) (hc : (x == ("__classdict__" : Str)) = false := by decide)
    (he : eval (.Call (.Attribute (.Name x np) (Str.ofString "pop") apos) [] [] pos) c.env = (do
      let ov ← eval (.Name x np) c.env
      standAt apos.atName
      let (f, first) ← holding [ov] (getMethod ov (Str.ofString "pop") pl)
      callWith pos f first (backTo pos (starEach [] c.env)) []) := by rfl) :
    Ev G c (pre ++ (a, .lst (ds ++ [d])) :: post) ml (.Call (.Attribute (.Name x np) (Str.ofString "pop") apos) [] [] pos) (.d d) (pre ++ (a, .lst ds) :: post) := by
  intro tm s Q E S k
  refine MethodCall_ (ev_name (pos := np) ok hm hd hc tm s _ E S fun v g t S1 => ?_) he
  obtain ⟨m, own, fz, S1⟩ := S1
  obtain rfl : v = .ref a := S1.tmp _ (.head _)
  obtain ⟨o2, ho2, ⟨vs2, n2, rfl, r2⟩, kset⟩ := S1.set (fun _ e => nomatch e)
  refine getMethod_builtin ⟨_, ho2, rfl⟩ PySem.F.plainAttrs_list PySem.F.slot_list_pop PySem.F.type_list_pop (fun b e => by cases e; exact ⟨_, ho2, rfl⟩) ?_
  show wpAny _ _ (callWith pos (.builtin "list.pop") [.ref a] [] []) Q E _
  have hl := r2.length
  rw [List.length_append, List.length_singleton] at hl
  obtain ⟨v, hv, rv⟩ := r2.get (i := ds.length) (d := d) (by simp)
  refine P.pop_list (y := v) ho2 ?_ ?_ (by rw [List.size_toArray, hl, sizeLine_eq]; omega)
  · rw [List.size_toArray, hl, Nat.add_sub_cancel]; simpa using hv
  have hself := Heap.get?_update_self (Obj.mapSeq fun xs => xs.eraseIdxIfInBounds (vs2.toArray.size - 1)) ho2 rfl
  have hlast : vs2.toArray.eraseIdxIfInBounds (vs2.toArray.size - 1) = (vs2.take ds.length).toArray := by
    rw [List.size_toArray, hl, Nat.add_sub_cancel, List.eraseIdxIfInBounds_toArray]
    congr 1
    rw [List.eraseIdx_eq_take_drop_succ, List.drop_of_length_le (by omega), List.append_nil]
  obtain ⟨own3, S3⟩ := kset (.lst ds) _ _ (fun b ob hb e => (Heap.get?_update_other _ _ (Ne.symm hb)).trans e) hself ⟨vs2.take ds.length, _, by simp only [listObj, Obj.mapSeq, hlast]; rfl, by
    have := r2.take ds.length
    rwa [List.take_left] at this⟩
  exact k _ _ t ⟨m, own3, fz, S3.put sub1 rv⟩
end
end Mine
end
section
open PySem PySem.W PyProof.Rows PySem.Calls PySem.Spec
namespace Mine
section
variable {G : Glo} {c : Cx} {oc oc1 oc2 oc3 oc4 oc' : List (Addr × Cell)} {ml ml1 ml2 ml' mlc : List (Str × Slot)} {tm base : List (Value × Slot)} {h h' : Heap} {m : Str → Option Value} {own fz : Led} {lev : Nat} {out : Out}

/-! ## slices -/
noncomputable def PtE (G : Glo) (c : Cx) (oc : List (Addr × Cell)) (ml : List (Str × Slot)) (x : Option Expr) (r : Option Int) (oc' : List (Addr × Cell)) : Prop :=
  (x = none ∧ r = none ∧ oc' = oc) ∨ ∃ e k, x = some e ∧ r = some k ∧ Ev G c oc ml e (.d (.int k)) oc'
theorem pte_none : PtE G c oc ml none none oc := .inl ⟨rfl, rfl, rfl⟩
theorem pte_some {e : Expr} {k : Int} (h : Ev G c oc ml e (.d (.int k)) oc1) : PtE G c oc ml (some e) (some k) oc1 := .inr ⟨e, k, rfl, rfl, h⟩
noncomputable def partData : Option Int → PyData
  | none => .none
  | some k => .int k
theorem part_of {H0 : Heap} {v : Value} {r : Option Int} (h : RV H0 fz v (partData r)) : IsPart v r := by
  cases r with
  | none => rw [rv_none h]; exact .none
  | some k => obtain ⟨t, rfl⟩ := rv_int h; exact .int k t
theorem pte_run {x : Option Expr} {r : Option Int} {s : Shared} {Q : Value → Shared → Prop} {E : Value → Shared → Prop} (P : PtE G c oc ml x r oc1) (S : St G c oc ml tm s.heap) (k : ∀ v h' tk', St G c oc1 ml ((v, .d (partData r)) :: tm) h' → Q v { s with heap := h', toks := tk' }) : wpAny (model G.prog G.w) c.A (evalPart x c.env) Q E s := by
  rcases P with ⟨rfl, rfl, rfl⟩ | ⟨e, kk, rfl, rfl, h⟩
  · obtain ⟨m, own, fz, S⟩ := S
    exact wpAny_pure (k .none s.heap s.toks ⟨m, own, fz, S.tok RV.none⟩)
  · exact h tm s Q E S k
theorem ev_slice {lower upper step : Option Expr} {p : Pos} {lo hi st : Option Int} (h1 : PtE G c oc ml lower lo oc1) (h2 : PtE G c oc1 ml upper hi oc2) (h3 : PtE G c oc2 ml step st oc3) : Ev G c oc ml (.Slice lower upper step p) (.slc lo hi st) oc3 := by
  intro tm s Q E S k
  refine wpAny_Slice (pte_run h1 S fun v1 g1 t1 S1 => pte_run h2 S1 fun v2 g2 t2 S2 => pte_run h3 S2 fun v3 g3 t3 S3 => ?_)
  obtain ⟨m, own, fz, S3⟩ := S3
  refine k _ _ t3 (S3.pushT (S3.F.push _) (S3.N.push S3.F { cls := .type "slice", data := .fields #[v1, v2, v3] }) (fun x hx => .tail _ (.tail _ (.tail _ hx))) ?_)
  exact ⟨_, v1, v2, v3, rfl, .head _, part_of (S3.tmp _ (.tail _ (.tail _ (.head _)))), part_of (S3.tmp _ (.tail _ (.head _))), part_of (S3.tmp _ (.head _))⟩

noncomputable def pickL {α : Type} (xs : List α) (lo hi st : Option Int) : List α :=
  (sliceRange (sliceBounds lo hi st xs.length).1 (sliceBounds lo hi st xs.length).2.1 (sliceBounds lo hi st xs.length).2.2).filterMap (xs[·]?)
theorem RVs.pick {H0 : Heap} {vs : List Value} {ds : List PyData} (r : RVs H0 fz vs ds) : ∀ js : List Nat, RVs H0 fz (js.filterMap (vs[·]?)) (js.filterMap (ds[·]?))
  | [] => .nil
  | j :: js => by
    rw [List.filterMap_cons, List.filterMap_cons]
    cases hd : ds[j]? with
    | none =>
      have : vs[j]? = none := by
        rw [List.getElem?_eq_none_iff] at hd ⊢
        rw [r.length]; exact hd
      rw [this]; exact RVs.pick r js
    | some d =>
      obtain ⟨v, hv, rv⟩ := r.get hd
      rw [hv]; exact .cons rv (RVs.pick r js)
theorem slicePick_L {vs : List Value} {lo hi st : Option Int} : slicePick vs.toArray lo hi st = (pickL vs lo hi st).toArray := by
  unfold slicePick pickL
  simp only [List.size_toArray, List.getElem?_toArray]

/-- a list's slice: a new list -/
theorem evo_slice {e i : Expr} {pos : Pos} {s1 : Slot} {xs : List PyData} {lo hi st : Option Int} (ok : c.Ok G lev) (h1 : Ev G c oc ml e s1 oc1) (h2 : Ev G c oc1 ml i (.slc lo hi st) oc2) (hl : Lst oc2 s1 xs) (h0 : st ≠ some 0) (hsz : xs.length ≤ 10000)
    (hs : (∀ o a, subscripted i false o (.ref a) = operate [.ref a, o] (getItem o (.ref a))) ∨ (∀ o a, subscripted i false o (.ref a) = operate [o, .ref a] (getItem o (.ref a))) := by first | (left; intros; with_unfolding_all rfl) | (right; intros; with_unfolding_all rfl)) : EvO G c oc ml (.Subscript e i pos) (pickL xs lo hi st) oc2 := by
  intro tm s Q E S k
  refine Subscript_ (h1 tm s _ E S fun v1 g1 t1 S1 => ?_)
  refine h2 _ _ _ E S1 fun v2 g2 t2 S2 => ?_
  obtain ⟨m, own, fz, S2⟩ := S2
  obtain ⟨a, vl, vu, vk, rfl, hm, p1, p2, p3⟩ := S2.tmp _ (.head _)
  obtain ⟨b, vs, rfl, hL, r⟩ := S2.lst ok hl (S2.tmp _ (.tail _ (.head _)))
  have hsl : g2.IsSliceOf a vl vu vk := ⟨_, (S2.N _ (List.mem_append_right _ hm)).1, rfl, rfl⟩
  have fin : wpAny (model G.prog G.w) c.A (getItem (.ref b) (.ref a)) Q E { s with heap := g2, toks := t2 } := by
   refine wpAny_getItem_list_slice hL hsl p1 p2 p3 h0 ?_ (by rw [List.size_toArray, r.length]; exact sz_ok hsz)
   rw [slicePick_L]
   exact k _ _ t2 (St0.newList (nn := 0) (S2.tms (tm' := tm) fun x hx => .tail _ (.tail _ hx)) (S2.F.push _) (S2.N.push S2.F _) (size_none _) (by
    have := r.pick (sliceRange (sliceBounds lo hi st vs.length).1 (sliceBounds lo hi st vs.length).2.1 (sliceBounds lo hi st vs.length).2.2)
    rw [pickL, pickL, ← r.length]; exact this))
  rcases hs with hs | hs
  · exact tail_any hL.typeIs slot_list_getitem.lookup fin (hs _ _)
  · exact tail_any hL.typeIs slot_list_getitem.lookup fin (hs _ _)

/-- a tuple's slice -/
noncomputable def pickT {α : Type} (xs : List α) (lo hi : Option Int) : List α :=
  (List.range (Builtin.Slice.slicePlaces (Builtin.Slice.sliceAdjust lo hi 1 xs.length).1 (Builtin.Slice.sliceAdjust lo hi 1 xs.length).2 1)).filterMap fun (k : Nat) => xs[((Builtin.Slice.sliceAdjust lo hi 1 xs.length).1 + (k : Int) * 1).toNat]?
theorem part_index {prog : Program} {w : World} {A : Around} {E : Value → Shared → Prop} {s : Shared} {v : Value} {r : Option Int} {Q : Option Int → Shared → Prop} (p : IsPart v r) (h : Q r s) : wpAny (model prog w) A (Builtin.Slice.slicePartIndex v) Q E s := by
  cases p with
  | none => exact slicePart_none h
  | int i t => exact slicePart_int h
theorem sliceApplied_gen {prog : Program} {w : World} {A : Around} {E : Value → Shared → Prop} {s : Shared} {sl : Addr} {vl vu : Value} {lo hi : Option Int} {n : Int} {Q : Int × Int × Nat → Shared → Prop} (hs : s.heap.IsSliceOf sl vl vu .none) (pl : IsPart vl lo) (pu : IsPart vu hi)
    (h : Q ((Builtin.Slice.sliceAdjust lo hi 1 n).1, 1, Builtin.Slice.slicePlaces (Builtin.Slice.sliceAdjust lo hi 1 n).1 (Builtin.Slice.sliceAdjust lo hi 1 n).2 1) s) :
    wpAny (model prog w) A (Builtin.Slice.sliceApplied (.ref sl) (pure n)) Q E s := by
  obtain ⟨os, hos, hcs, hds⟩ := id hs
  unfold Builtin.Slice.sliceApplied Builtin.Slice.sliceFields
  refine wpAny_bind (wpAny_bind (wpAny_field hos hds (x := vl) rfl (wpAny_bind (wpAny_field hos hds (x := vu) rfl (wpAny_bind (wpAny_field hos hds (x := .none) rfl (wpAny_pure ?_)))))))
  refine wpAny_bind (slicePart_none ?_)
  show wpAny _ _ (if ((1 : Int) == 0) = true then _ else _) _ _ s
  rw [if_neg (by decide)]
  refine wpAny_bind (part_index pl (wpAny_bind (part_index pu (wpAny_bind (wpAny_pure ?_)))))
  exact wpAny_pure h
theorem places_le (lo hi : Option Int) (n : Nat) : Builtin.Slice.slicePlaces (Builtin.Slice.sliceAdjust lo hi 1 n).1 (Builtin.Slice.sliceAdjust lo hi 1 n).2 1 ≤ n := by
  have h1 : ¬ ((1 : Int) < 0) := by omega
  have h2 : (1 : Int) > 0 := by omega
  unfold Builtin.Slice.slicePlaces Builtin.Slice.sliceAdjust
  simp only [h1, h2, if_false, if_true, Int.ediv_one]
  cases lo <;> cases hi <;> dsimp only <;> split <;> (try split) <;> (try split) <;> omega
theorem pickT_whole {α : Type} {xs : List α} {lo hi : Option Int} (h1 : (Builtin.Slice.sliceAdjust lo hi 1 xs.length).1 = 0) (h3 : Builtin.Slice.slicePlaces (Builtin.Slice.sliceAdjust lo hi 1 xs.length).1 (Builtin.Slice.sliceAdjust lo hi 1 xs.length).2 1 = xs.length) : pickT xs lo hi = xs := by
  unfold pickT
  rw [h3, h1]
  have e : (fun (k : Nat) => xs[((0 : Int) + (k : Int) * 1).toNat]?) = fun k => xs[k]? := by
    funext k
    have : ((0 : Int) + (k : Int) * 1).toNat = k := by omega
    rw [this]
  rw [e]
  have := pick_run xs.toArray 0 xs.length
  simp only [Nat.zero_add, List.map_id', List.getElem?_toArray, List.drop_zero, List.take_length] at this
  exact this
theorem getItem_tuple_slice {prog : Program} {w : World} {A : Around} {E : Value → Shared → Prop} {s : Shared} {t sl : Addr} {vs : List Value} {vl vu : Value} {lo hi : Option Int} {Q : Value → Shared → Prop} (ht : IsTup s.heap t vs.toArray) (hs : s.heap.IsSliceOf sl vl vu .none) (pl : IsPart vl lo) (pu : IsPart vu hi)
    (hwhole : (Builtin.Slice.sliceAdjust lo hi 1 vs.length).1 = 0 → Builtin.Slice.slicePlaces (Builtin.Slice.sliceAdjust lo hi 1 vs.length).1 (Builtin.Slice.sliceAdjust lo hi 1 vs.length).2 1 = vs.length → Q (.ref t) s) (h : Q (.ref s.heap.objs.size) { s with heap := s.heap.push { cls := .type "tuple", data := .seq (pickT vs lo hi).toArray } })
    (hsz : vs.length ≤ 10000) : wpAny (model prog w) A (getItem (.ref t) (.ref sl)) Q E s := by
  have hdrop : sizeOk (.seq (pickT vs lo hi).toArray) := by
    show (pickT vs lo hi).toArray.size ≤ sizeLine
    rw [List.size_toArray]
    refine Nat.le_trans (List.length_filterMap_le _ _) ?_
    rw [List.length_range]
    have := places_le lo hi vs.length
    rw [sizeLine_eq]; omega
  obtain ⟨os, hos, hcs, hds⟩ := id hs
  have hTs : s.TypeIs (.ref sl) "slice" := ⟨os, hos, hcs⟩
  unfold getItem
  try with_reducible refine wpAny_holding ?_
  first | refine wpAny_bind (wpAny_pure ?_) | skip
  refine wpAny_bind (wpAny_sequenceKey ht.typeIs (by decide) ?_)
  refine wpAny_bind (wpAny_callSpecial?_slot (name := Str.ofString "__getitem__") ht.typeIs slot_tuple_getitem
    (wpAny_call_entry slot_tuple_getitem ht.typeIs entry_tuple_getitem ?_ (args_tuple_getitem _ _)))
  show wpAny _ _ (Builtin.Tuple.tupleItemsOf (.ref t) >>= _) _ _ s
  refine wpAny_bind (tupleItemsOf_ ht ?_)
  refine wpAny_bind (wpAny_typeOf hTs ?_)
  rw [if_pos (by decide)]
  refine wpAny_bind (sliceApplied_gen hs pl pu ?_)
  dsimp only
  split
  · rename_i hw
    simp only [Bool.and_eq_true, beq_iff_eq, List.size_toArray] at hw
    obtain ⟨⟨h1, _⟩, h3⟩ := hw
    refine wpAny_bind (wpAny_bind (wpAny_typeOf ht.typeIs (wpAny_pure ?_)))
    rw [if_pos (by first | exact beq_self_eq_true _ | decide | rfl)]
    exact wpAny_bind (wpAny_rule (wpAny_pure ⟨_, rfl, wpAny_pure (hwhole h1 h3)⟩))
  · have e : (List.filterMap (fun (k : Nat) => vs.toArray[((Builtin.Slice.sliceAdjust lo hi 1 vs.toArray.size).1 + (k : Int) * 1).toNat]?) (List.range (Builtin.Slice.slicePlaces (Builtin.Slice.sliceAdjust lo hi 1 vs.toArray.size).1 (Builtin.Slice.sliceAdjust lo hi 1 vs.toArray.size).2 1))) = pickT vs lo hi := by
      unfold pickT
      simp only [List.size_toArray, List.getElem?_toArray]
    rw [e]
    exact wpAny_bind (m := Builtin.Tuple.tupleExact _) (wpAny_newObj_type (wpAny_pure ⟨_, rfl, wpAny_pure h⟩) hdrop)
theorem s_tup_slice {e i : Expr} {xs : List PyData} {lo hi : Option Int} (ok : c.Ok G lev) (hsz : xs.length ≤ 10000)
    (hs : ∀ o a, subscripted i false o (.ref a) = operate [.ref a, o] (getItem o (.ref a)) := by intros; with_unfolding_all rfl) : Bin G c oc ml (subscriptTail e i) (.d (.tuple xs)) (.slc lo hi none) (.d (.tuple (pickT xs lo hi))) oc := by
  rintro tm s Q E v1 v2 ⟨m, own, fz, S⟩ k
  obtain ⟨a, vl, vu, vk, rfl, hm, p1, p2, p3⟩ := S.tmp _ (.head _)
  cases p3
  have q := S.tmp _ (.tail _ (.head _))
  obtain ⟨b, vs, rfl, hL, r⟩ := S.isTup ok q
  have hsl : s.heap.IsSliceOf a vl vu .none := ⟨_, (S.N _ (List.mem_append_right _ hm)).1, rfl, rfl⟩
  have hl := r.length
  have rp : RVs G.H0 fz (pickT vs lo hi) (pickT xs lo hi) := by
    have := r.pick ((List.range (Builtin.Slice.slicePlaces (Builtin.Slice.sliceAdjust lo hi 1 vs.length).1 (Builtin.Slice.sliceAdjust lo hi 1 vs.length).2 1)).map fun (k : Nat) => ((Builtin.Slice.sliceAdjust lo hi 1 vs.length).1 + (k : Int) * 1).toNat)
    rw [List.filterMap_map, List.filterMap_map] at this
    unfold pickT
    rw [← hl]
    exact this
  refine tail_any hL.typeIs slot_tuple_getitem.lookup (getItem_tuple_slice hL hsl p1 p2 (fun e1 e2 => ?_) ?_ (by omega)) (hs _ _)
  · refine k _ s.heap s.toks ⟨m, own, fz, S.put sub2 ?_⟩
    have : pickT xs lo hi = xs := pickT_whole (hl ▸ e1) (by rw [hl] at e2; exact e2)
    rw [this]; exact q
  · exact k _ _ s.toks (S.pushT (S.F.push _) (S.N.push S.F _) sub2 (rv_tup_new rp))
end
end Mine
end
section
open PySem PySem.W PyProof.Rows PySem.Calls PySem.Spec
namespace Mine
section
variable {G : Glo} {c : Cx} {oc oc1 oc2 oc3 oc4 oc' : List (Addr × Cell)} {ml ml1 ml2 ml' mlc : List (Str × Slot)} {tm base : List (Value × Slot)} {h h' : Heap} {m : Str → Option Value} {own fz : Led} {lev : Nat} {out : Out}

/-! ## an item set -/
theorem sx_setitem {x : Str} {np p pos : Pos} {i e : Expr} {a : Addr} {cl : Cell} {pre post : List (Addr × Cell)} {xs : List PyData} {d : PyData} {k : Int} (ok : c.Ok G lev) (h1 : Ev G c oc ml e (.d d) oc1) (hm : (x, .own a) ∈ ml) (h2 : Ev G c oc1 ml i (.d (.int k)) (pre ++ (a, cl) :: post)) (hcl : cl = .lst xs ∨ cl = .lsw xs) (h0 : 0 ≤ k) (hk : k < xs.length) (hsz : xs.length ≤ 10000)
    (hd : (x == ("__debug__" : Str)) = false := by decide) (hc : (x == ("__classdict__" : Str)) = false := by decide) (hs : swapsWith e (some (.Subscript (.Name x np) i p)) pos.line c.env = pure false := by rfl) :
    Sx G c oc ml (.Assign [.Subscript (.Name x np) i p] e pos) (.next (pre ++ (a, .lsw (xs.set k.toNat d)) :: post) ml) := by
  intro tm s Q E hE S kk
  refine wpAny_Assign_Subscript (h1 tm s _ E S fun v g t S1 => ?_) hs
  refine ev_name (pos := np) ok hm hd hc _ _ _ E S1 fun v2 g2 t2 S2 => ?_
  refine h2 _ _ _ E S2 fun v3 g3 t3 S3 => ?_
  obtain ⟨m, own, fz, S3⟩ := S3
  obtain ⟨u, rfl⟩ := rv_int (S3.tmp _ (.head _))
  obtain rfl : v2 = .ref a := S3.tmp _ (.tail _ (.head _))
  have rd := S3.tmp _ (.tail _ (.tail _ (.head _)))
  obtain ⟨o, ho, q, kset⟩ := S3.set (fun _ e => by rcases hcl with h | h <;> (rw [h] at e; cases e))
  have lst : ∃ vs n, o.cls = .type "list" ∧ o.data = .seq (List.toArray vs) n ∧ RVs G.H0 fz vs xs := by
    rcases hcl with rfl | rfl
    · obtain ⟨vs, n, rfl, r⟩ := q; exact ⟨vs, n, rfl, rfl, r⟩
    · obtain ⟨hc, vs, n, hd, r⟩ := q; exact ⟨vs, n, hc, hd, r⟩
  obtain ⟨vs, n, hoc, hod, r⟩ := lst
  have hl := r.length
  refine wpAny_setItem_list (items := vs.toArray) ⟨o, ho, hoc, n, hod⟩ h0 (by omega) (by rw [List.size_toArray, hl]; exact hk) fun h' hL hs' => ?_
  obtain ⟨o', ho', hoc', n', hod'⟩ := hL
  obtain ⟨own4, S4⟩ := kset (.lsw (xs.set k.toNat d)) h' o' (fun b ob hb e => hs'.extBut b ob hb e) ho' ⟨hoc', vs.set k.toNat v, n', by rw [hod', List.setIfInBounds_toArray], r.set rd k.toNat⟩
  exact kk h' _ ⟨m, own4, fz, S4.tms fun x hx => .tail _ (.tail _ (.tail _ hx))⟩

/-! ## two comparisons in a chain -/
theorem tr_chain_f {l r1 r2 : Expr} {op1 op2 : CmpOp} {pos : Pos} {s1 s2 : Slot} (h1 : Ev G c oc ml l s1 oc1) (h2 : Ev G c oc1 ml r1 s2 oc2) (f1 : Bin G c oc2 ml (compareOp op1) s1 s2 (.d (.bool false)) oc3)
    (hm : lastMarks [op1, op2] [r1, r2] = false := by with_unfolding_all rfl) : Tr G c oc ml (.Compare l [op1, op2] [r1, r2] pos) false oc3 := by
  intro tm s Q E S k
  refine isTrue_chain (h1 tm s _ E S fun v1 g1 t1 S1 => ?_) hm
  refine test_link (h2 _ _ _ E S1 fun v2 g2 t2 S2 => ?_)
  refine f1 tm _ _ E v1 v2 S2 fun v g t S3 => ?_
  obtain ⟨m, own, fz, S3⟩ := S3
  have := rv_bool (S3.tmp _ (.head _))
  subst this
  exact wpAny_truthy_bool (k _ _ ⟨m, own, fz, S3.tms sub1⟩)
theorem keep_two {x y : Value × Slot} {tm : List (Value × Slot)} : ∀ z ∈ y :: x :: tm, z ∈ y :: x :: tm := fun _ h => h
theorem tr_chain_t {l r1 r2 : Expr} {op1 op2 : CmpOp} {pos : Pos} {s1 s2 s3 : Slot} {b : Bool} (h1 : Ev G c oc ml l s1 oc) (h2 : Ev G c oc ml r1 s2 oc) (f1 : Bin G c oc ml (compareOp op1) s1 s2 (.d (.bool true)) oc) (h3 : Ev G c oc ml r2 s3 oc) (f2 : Bin G c oc ml (compareOp op2) s2 s3 (.d (.bool b)) oc)
    (hm : lastMarks [op1, op2] [r1, r2] = false := by with_unfolding_all rfl) : Tr G c oc ml (.Compare l [op1, op2] [r1, r2] pos) b oc := by
  intro tm s Q E S k
  refine isTrue_chain (h1 tm s _ E S fun v1 g1 t1 S1 => ?_) hm
  refine test_link (h2 _ _ _ E S1 fun v2 g2 t2 S2 => ?_)
  -- keep the middle value in mind
  have S2' : St G c oc ml ((v2, s2) :: (v1, s1) :: (v2, s2) :: tm) g2 := by
    obtain ⟨m, own, fz, S2⟩ := S2
    exact ⟨m, own, fz, ⟨S2.F, S2.N, S2.O, S2.nd, S2.ap, S2.sub, S2.V, fun x hx => by
      rcases List.mem_cons.mp hx with rfl | hx
      · exact S2.tmp _ (.head _)
      · rcases List.mem_cons.mp hx with rfl | hx
        · exact S2.tmp _ (.tail _ (.head _))
        · rcases List.mem_cons.mp hx with rfl | hx
          · exact S2.tmp _ (.head _)
          · exact S2.tmp _ (.tail _ (.tail _ hx))⟩⟩
  refine f1 ((v2, s2) :: tm) _ _ E v1 v2 S2' fun v g t S3 => ?_
  have S3' : St G c oc ml ((v2, s2) :: tm) g := S3.tms sub1
  obtain ⟨m, own, fz, S3⟩ := S3
  have := rv_bool (S3.tmp _ (.head _))
  subst this
  refine wpAny_truthy_bool ?_
  rw [if_pos rfl]
  refine test_last (h3 _ _ _ E S3' fun v3 g3 t3 S4 => ?_)
  refine f2 tm _ _ E v2 v3 S4 fun v g t S5 => ?_
  obtain ⟨m, own, fz, S5⟩ := S5
  have := rv_bool (S5.tmp _ (.head _))
  subst this
  exact wpAny_truthy_bool (k _ _ ⟨m, own, fz, S5.tms sub1⟩)
theorem tr_chain {l r1 r2 : Expr} {op1 op2 : CmpOp} {pos : Pos} {s1 s2 s3 : Slot} {b1 b2 : Bool} (h1 : Ev G c oc ml l s1 oc) (h2 : Ev G c oc ml r1 s2 oc) (f1 : Bin G c oc ml (compareOp op1) s1 s2 (.d (.bool b1)) oc) (h3 : Ev G c oc ml r2 s3 oc) (f2 : Bin G c oc ml (compareOp op2) s2 s3 (.d (.bool b2)) oc)
    (hm : lastMarks [op1, op2] [r1, r2] = false := by with_unfolding_all rfl) : Tr G c oc ml (.Compare l [op1, op2] [r1, r2] pos) (b1 && b2) oc := by
  cases b1 with
  | false => exact tr_chain_f h1 h2 f1 hm
  | true => exact tr_chain_t h1 h2 f1 h3 f2 hm

/-! ## while -/
theorem tr_own {x : Str} {p : Pos} {a : Addr} {xs : List PyData} (ok : c.Ok G lev) (hm : (x, .own a) ∈ ml) (hcell : Lst oc (.own a) xs) (hsz : xs.length ≤ 10000) (hd : (x == ("__debug__" : Str)) = false := by decide) (hc : (x == ("__classdict__" : Str)) = false := by decide) (hf : isTrue (.Name x p) c.env (eval (.Name x p) c.env) = (do let v ← eval (.Name x p) c.env; standAt (Expr.Name x p).pos; holding [v] (truthy v)) := by rfl) : Tr G c oc ml (.Name x p) (!xs.isEmpty) oc := by
  intro tm s Q E S k
  refine isTrue_plain (ev_name (pos := p) ok hm hd hc tm s _ E S fun v g t S1 => ?_) hf
  obtain ⟨m, own, fz, S1⟩ := S1
  obtain ⟨b, vs, rfl, hL, r⟩ := S1.lst ok hcell (S1.tmp _ (.head _))
  have hl := r.length
  refine wpAny_truthy_list hL (by rw [List.size_toArray, hl]; omega) ?_
  have e : (!vs.toArray.isEmpty) = !xs.isEmpty := by
    cases vs <;> cases xs <;> simp at hl <;> simp
  rw [e]
  exact k _ _ ⟨m, own, fz, S1.tms sub1⟩

/-- a while loop: n turns, then the test is false; or in turn n the body stops it -/
theorem sx_while_gen {t : Expr} {body : List Stmt} {pos : Pos} {n : Nat} (stop : Bool) {ocs : Nat → List (Addr × Cell)} {mls : Nat → List (Str × Slot)}
    (h0 : oc = ocs 0) (h0' : ml = mls 0) (htest : ∀ i, i < n → Tr G c (ocs i) (mls i) t true (ocs i)) (hlast : Tr G c (ocs n) (mls n) t stop (ocs n))
    (hb : ∀ i, i < n → ∃ out, Ends out (ocs (i + 1)) (mls (i + 1)) ∧ Ex G c (ocs i) (mls i) body out)
    (out : Out) (hout : stop = false → out = .next (ocs n) (mls n)) (hstop : stop = true → ((∃ sl o, out = .ret sl o) ∨ ∃ o m, out = .exc o m) ∧ Ex G c (ocs n) (mls n) body out) : Sx G c oc ml (.While t body [] pos) out := by
  subst h0 h0'
  intro tm s Q E hE S k
  refine wpAny_While ?_
  refine codeAny_whileLoop (fun k s' => ∃ i h2 tk2, s' = { s with heap := h2, toks := tk2 } ∧ St G c (ocs i) (mls i) tm h2 ∧ i ≤ n ∧ k = n + 1 - i) ?_ (n + 1) ⟨0, s.heap, s.toks, rfl, S, Nat.zero_le _, rfl⟩
  rintro k2 s2 ⟨i, h2, tk2, rfl, S2, hin, rfl⟩
  by_cases hlt : i < n
  · refine wpAny_passesOwn hE (htest i hlt tm _ _ E S2 fun h3 tk3 S3 => ?_)
    rw [if_pos rfl]
    obtain ⟨o9, hends, hx⟩ := hb i hlt
    have nxt : ∀ h9 tk9, St G c (ocs (i + 1)) (mls (i + 1)) tm h9 → ∃ m, m < n + 1 - i ∧ ∃ i' h2 tk2, ({ s with heap := h9, toks := tk9 } : Shared) = { s with heap := h2, toks := tk2 } ∧ St G c (ocs i') (mls i') tm h2 ∧ i' ≤ n ∧ m = n + 1 - i' := fun h9 tk9 S9 =>
      ⟨n + 1 - (i + 1), by omega, i + 1, h9, tk9, rfl, S9, hlt, rfl⟩
    refine wpAny_passesOwn hE (hx tm _ _ E hE S3 ?_)
    rcases hends with rfl | rfl
    · exact fun h9 tk9 S9 => nxt h9 tk9 S9
    · exact fun h9 tk9 S9 => nxt h9 tk9 S9
  · obtain rfl : i = n := Nat.le_antisymm hin (Nat.not_lt.mp hlt)
    refine wpAny_passesOwn hE (hlast tm _ _ E S2 fun h3 tk3 S3 => ?_)
    cases stop with
    | false =>
      rw [if_neg Bool.false_ne_true]
      refine wpAny_execs_nil ?_
      have := hout rfl
      subst this
      exact k h3 tk3 S3
    | true =>
      rw [if_pos rfl]
      obtain ⟨ho, hx⟩ := hstop rfl
      refine wpAny_passesOwn hE (hx tm _ _ E hE S3 ?_)
      rcases ho with ⟨sl, o, rfl⟩ | ⟨o, m, rfl⟩ <;> exact k

/-! ## small things -/
theorem b_mul {a b : Int} (h : IntMulOk a b) : Bin G c oc ml (binaryOp .Mult) (.d (.int a)) (.d (.int b)) (.d (.int (a * b))) oc := bin_int fun _ _ hq => PyProof.Rows.mul_int hq h
theorem St0.freezeAt {pre post : List (Addr × Cell)} {a : Addr} {xs : List PyData} {cl : Cell} {v : Value} (hcl : cl = .lst xs ∨ cl = .lsw xs) (S : St0 G c (pre ++ (a, cl) :: post) ml ((v, .own a) :: tm) h m own fz) : ∃ own2 fz2, St0 G c (pre ++ post) ml ((v, .d (.list xs)) :: tm) h m own2 fz2 := by
  obtain ⟨own1, S1⟩ := S.perm (List.perm_middle : (pre ++ (a, cl) :: post).Perm ((a, cl) :: (pre ++ post)))
  exact S1.freeze hcl
theorem ev_freezeAt {e : Expr} {a : Addr} {xs : List PyData} {cl : Cell} {pre post : List (Addr × Cell)} (hcl : cl = .lst xs ∨ cl = .lsw xs) (h1 : Ev G c oc ml e (.own a) (pre ++ (a, cl) :: post)) : Ev G c oc ml e (.d (.list xs)) (pre ++ post) := by
  intro tm s Q E S k
  refine h1 tm s Q E S fun v h' tk' S1 => ?_
  obtain ⟨m, own, fz, S1⟩ := S1
  obtain ⟨own2, fz2, S2⟩ := S1.freezeAt hcl
  exact k v h' tk' ⟨m, own2, fz2, S2⟩
/-- a list of one's own that is changed no more, under its name -/
theorem ex_freeze {ss : List Stmt} {x : Str} {a : Addr} {xs : List PyData} {cl : Cell} {pre post : List (Addr × Cell)} (ok : c.FOk G lev) (hcl : cl = .lst xs ∨ cl = .lsw xs) (hm : (x, .own a) ∈ ml) (hs : ∀ y ∈ ml', y ∈ ml ∨ y = (x, .d (.list xs))) (h1 : Ex G c (pre ++ post) ml' ss out) : Ex G c (pre ++ (a, cl) :: post) ml ss out := by
  intro tm s Q E hE S k
  refine h1 tm s Q E hE ?_ k
  obtain ⟨m, own, fz, S⟩ := S
  obtain ⟨v, hv, r⟩ := S.V1 _ hm
  have S1 := S.tok (v := v) (sl := .own a) r
  obtain ⟨own2, fz2, S2⟩ := S1.freezeAt hcl
  have hv2 : VarAt c.env c.L m (pre ++ post) x v := VarAt.less (fun o e => by rcases hcl with h | h <;> (rw [h] at e; cases e)) hv
  refine ⟨m, own2, fz2, S2.F, S2.N, S2.O, S2.nd, S2.ap, S2.sub, vs_of ok.nofml fun y hy => ?_, fun y hy => S2.tmp y (.tail _ hy)⟩
  rcases hs y hy with hy | rfl
  · exact S2.V1 y hy
  · exact ⟨v, hv2, S2.tmp _ (.head _)⟩
theorem ex_perm {ss : List Stmt} (p : oc.Perm oc1) (h1 : Ex G c oc1 ml ss out) : Ex G c oc ml ss out := fun tm s Q E hE S k => h1 tm s Q E hE (S.perm p) k
theorem ev_eq {e : Expr} {sl sl' : Slot} (h1 : Ev G c oc ml e sl oc1) (he : sl = sl') : Ev G c oc ml e sl' oc1 := he ▸ h1
theorem tr_eq {e : Expr} {b b' : Bool} (h1 : Tr G c oc ml e b oc1) (he : b = b') : Tr G c oc ml e b' oc1 := he ▸ h1
theorem sx_if {t : Expr} {b o : List Stmt} {pos : Pos} {r : Bool} (h1 : Tr G c oc ml t r oc1) (h2 : r = true → Ex G c oc1 ml b out) (h3 : r = false → Ex G c oc1 ml o out) : Sx G c oc ml (.If t b o pos) out := by
  cases r with
  | true => exact sx_if_t h1 (h2 rfl)
  | false => exact sx_if_f h1 (h3 rfl)
theorem St.lsw {pre post : List (Addr × Cell)} {a : Addr} {xs : List PyData} (S : St G c (pre ++ (a, .lst xs) :: post) ml tm h) : St G c (pre ++ (a, .lsw xs) :: post) ml tm h := by
  obtain ⟨m, own, fz, S⟩ := S
  obtain ⟨o, ho, ⟨vs, n, rfl, r⟩, kset⟩ := S.set (fun _ e => nomatch e)
  obtain ⟨own2, S2⟩ := kset (.lsw xs) h _ (fun _ _ _ e => e) ho ⟨rfl, vs, n, rfl, r⟩
  exact ⟨m, own2, fz, S2⟩
theorem ex_lsw {ss : List Stmt} {pre post : List (Addr × Cell)} {a : Addr} {xs : List PyData} (h1 : Ex G c (pre ++ (a, .lsw xs) :: post) ml ss out) : Ex G c (pre ++ (a, .lst xs) :: post) ml ss out := fun tm s Q E hE S k => h1 tm s Q E hE S.lsw k
theorem tr_ev {e : Expr} {b : Bool} (h1 : Ev G c oc ml e (.d (.bool b)) oc1) (hf : isTrue e c.env (eval e c.env) = (do let v ← eval e c.env; standAt e.pos; holding [v] (truthy v)) := by rfl) : Tr G c oc ml e b oc1 := by
  intro tm s Q E S k
  refine isTrue_plain (h1 tm s _ E S fun v g t S1 => ?_) hf
  obtain ⟨m, own, fz, S1⟩ := S1
  obtain rfl := rv_bool (S1.tmp _ (.head _))
  exact wpAny_truthy_bool (k _ _ ⟨m, own, fz, S1.tms sub1⟩)
/-- a test behind which the code raises -/
theorem ex_guard {t : Expr} {st : Stmt} {rest : List Stmt} {pos : Pos} {b bad : Bool} (h1 : Tr G c oc ml t b oc) (h2 : Sx G c oc ml st (.exc oc ml)) (h3 : b = false → Ex G c oc ml rest (if bad then .exc oc ml else .next oc ml)) : Ex G c oc ml (.If t [st] [] pos :: rest) (if b || bad then .exc oc ml else .next oc ml) := by
  cases b with
  | true => exact ex_exc (sx_if_t h1 (ex_exc h2))
  | false => exact ex_cons (sx_if_f h1 ex_nil) (h3 rfl)
/-- a while loop and what follows -/
theorem ex_while {t : Expr} {body rest : List Stmt} {pos : Pos} {n : Nat} (stop : Bool) (ocs : Nat → List (Addr × Cell)) (mls : Nat → List (Str × Slot))
    (htest : ∀ i, i < n → Tr G c (ocs i) (mls i) t true (ocs i)) (hlast : Tr G c (ocs n) (mls n) t stop (ocs n))
    (hb : ∀ i, i < n → ∃ out, Ends out (ocs (i + 1)) (mls (i + 1)) ∧ Ex G c (ocs i) (mls i) body out)
    (hstop : stop = true → ∃ o m, out = .exc o m ∧ Ex G c (ocs n) (mls n) body (.exc o m)) (hrest : stop = false → Ex G c (ocs n) (mls n) rest out) : Ex G c (ocs 0) (mls 0) (.While t body [] pos :: rest) out := by
  cases stop with
  | false => exact ex_cons (sx_while_gen false rfl rfl htest hlast hb _ (fun _ => rfl) (fun h => nomatch h)) (hrest rfl)
  | true =>
    obtain ⟨o, m, rfl, hx⟩ := hstop rfl
    exact ex_exc (sx_while_gen true rfl rfl htest hlast hb _ (fun h => nomatch h) (fun _ => ⟨.inr ⟨o, m, rfl⟩, hx⟩))
/-- a for loop that may raise in turn j, and what follows -/
theorem ex_for {t iter : Expr} {body rest : List Stmt} {pos : Pos} {n : Nat} {elt : Nat → Slot} (stop : Option Nat) (ocs : Nat → List (Addr × Cell)) (mls : Nat → List (Str × Slot)) {up : Nat → List (Str × Slot) → List (Str × Slot)} (ok : c.Ok G lev)
    (hi : ItE G c oc (mls 0) iter n elt (ocs 0)) (ht : ∀ i, i < n → Tgt G c t (elt i) (up i))
    (hb : ∀ tl i, i < n → (∀ j, stop = some j → i < j) → ∃ out, Ends out (ocs (i + 1) ++ tl) (mls (i + 1)) ∧ Ex G c (ocs i ++ tl) (up i (mls i)) body out)
    (hstop : ∀ j, stop = some j → j < n ∧ ∃ o m, out = .exc o m ∧ ∀ tl, Quiet tl.2 → Ex G c (ocs j ++ [tl]) (up j (mls j)) body (.exc (o ++ [tl]) m)) (hrest : stop = none → Ex G c (ocs n) (mls n) rest out)
    (hs : ∀ x, foldedSetIterable iter c.env x = pure x := by intro _; rfl) : Ex G c oc (mls 0) (.For t iter body [] pos :: rest) out := by
  cases stop with
  | none => exact ex_cons (sx_for_gen none ok hi rfl ht (fun tl i h _ => hb tl i h (fun _ e => nomatch e)) (fun _ _ h => nomatch h) _ rfl hs) (hrest rfl)
  | some j =>
    obtain ⟨hj, o, m, rfl, hx⟩ := hstop j rfl
    exact ex_exc (sx_for_gen (some (j, .exc o m)) ok hi rfl ht (fun tl i h hp => hb tl i h (fun j' e => by cases e; exact hp _ rfl)) (fun j' o' h => by cases h; exact ⟨hj, .inr ⟨_, _, rfl, hx⟩⟩) _ rfl hs)
theorem InExc.drop {pre : List (Addr × Cell)} {e : Addr} (ok : c.FOk G lev) (X : InExc G c (pre ++ oc) ml e h') : InExc G c oc [] e h' := by
  rcases X with ⟨h, m, own, fz, S, Fz⟩ | ⟨g, m, own, fz, X⟩
  · obtain ⟨own2, S2⟩ := (S.mls (ml' := []) (fun _ h => nomatch h)).drop ok.nofml
    exact .inl ⟨h, m, own2, fz, S2, Fz⟩
  · obtain ⟨o1, o2, e12, O2⟩ := owns_drop X.O
    subst e12
    refine .inr ⟨g, m, o2, fz, X.F, X.R.less fun p hp => ?_, X.up, O2, ?_, fun p hp => X.ap p (List.mem_append_right _ hp), X.sub, fun x hx => nomatch hx⟩
    · rw [List.append_assoc]; exact List.mem_append_right _ hp
    · have nd := X.nd
      rw [List.map_append, List.nodup_append] at nd; exact nd.2.1
theorem ex_exc_drop {ss : List Stmt} {pre : List (Addr × Cell)} (ok : c.FOk G lev) (h1 : Ex G c oc ml ss (.exc (pre ++ oc1) ml1)) : Ex G c oc ml ss (.exc oc1 []) := fun tm s Q E hE S k => h1 tm s Q E hE S fun e g t X => k e g t (X.drop ok)
/-- a for loop that may return in turn j, and what follows -/
theorem ex_forR {t iter : Expr} {body rest : List Stmt} {pos : Pos} {n : Nat} {elt : Nat → Slot} (stop : Option Nat) (ocs : Nat → List (Addr × Cell)) (mls : Nat → List (Str × Slot)) {up : Nat → List (Str × Slot) → List (Str × Slot)} (ok : c.Ok G lev)
    (hi : ItE G c oc (mls 0) iter n elt (ocs 0)) (ht : ∀ i, i < n → Tgt G c t (elt i) (up i))
    (hb : ∀ tl i, i < n → (∀ j, stop = some j → i < j) → ∃ out, Ends out (ocs (i + 1) ++ tl) (mls (i + 1)) ∧ Ex G c (ocs i ++ tl) (up i (mls i)) body out)
    (hstop : ∀ j, stop = some j → j < n ∧ ∃ sl o, out = .ret sl o ∧ ∀ tl, Quiet tl.2 → Ex G c (ocs j ++ [tl]) (up j (mls j)) body (.ret sl (o ++ [tl]))) (hrest : stop = none → Ex G c (ocs n) (mls n) rest out)
    (hs : ∀ x, foldedSetIterable iter c.env x = pure x := by intro _; rfl) : Ex G c oc (mls 0) (.For t iter body [] pos :: rest) out := by
  cases stop with
  | none => exact ex_cons (sx_for_gen none ok hi rfl ht (fun tl i h _ => hb tl i h (fun _ e => nomatch e)) (fun _ _ h => nomatch h) _ rfl hs) (hrest rfl)
  | some j =>
    obtain ⟨hj, sl, o, rfl, hx⟩ := hstop j rfl
    exact ex_ret (sx_for_gen (some (j, .ret sl o)) ok hi rfl ht (fun tl i h hp => hb tl i h (fun j' e => by cases e; exact hp _ rfl)) (fun j' o' h => by cases h; exact ⟨hj, .inl ⟨_, _, rfl, hx⟩⟩) _ rfl hs)
end
end Mine
end
section
open PySem PySem.W PyProof.Rows PySem.Calls PySem.Spec
set_option maxRecDepth 100000
namespace Mine
section
variable {G : Glo} {c : Cx} {oc oc1 oc2 oc3 oc' : List (Addr × Cell)} {ml ml1 ml2 ml' : List (Str × Slot)} {tm : List (Value × Slot)} {h h' : Heap} {m : Str → Option Value} {own fz : Led} {lev : Nat} {out : Out}

mutual
noncomputable def rvK (K : Frag) : Nat → Value → Option PyData
  | 0, _ => none
  | n + 1, v => match v with
    | .none => some .none
    | .bool b => some (.bool b)
    | .int i _ => some (.int i)
    | .str x _ => some (.str x)
    | .ref a => (match K.lookup a with
      | some ⟨.type "list", _, .seq vs _, _⟩ => (rvsK K n vs.toList).map .list
      | some ⟨.type "tuple", _, .seq vs _, _⟩ => (rvsK K n vs.toList).map .tuple
      | _ => none)
    | _ => none
noncomputable def rvsK (K : Frag) : Nat → List Value → Option (List PyData)
  | 0, _ => none
  | _ + 1, [] => some []
  | n + 1, v :: vs => (rvK K n v).bind fun d => (rvsK K n vs).map (d :: ·)
end
mutual
theorem rvK_sound {K : Frag} {H0 : Heap} (X : K.In H0) : ∀ {n : Nat} {v : Value} {d : PyData}, rvK K n v = some d → RV H0 [] v d
  | 0, _, _, e => by rw [rvK] at e; cases e
  | n + 1, v, d, e => by
    cases v <;> simp only [rvK] at e
    case none => cases e; exact .none
    case bool => cases e; exact .bool _
    case int => cases e; exact .int _ _
    case str => cases e; exact .str _ _
    case ref a =>
      split at e
      · rename_i ho
        rw [Option.map_eq_some_iff] at e
        obtain ⟨ds, e, rfl⟩ := e
        exact .list (.inl (X _ _ ho)) rfl rfl (rvsK_sound X e)
      · rename_i ho
        rw [Option.map_eq_some_iff] at e
        obtain ⟨ds, e, rfl⟩ := e
        exact .tuple (.inl (X _ _ ho)) rfl rfl (rvsK_sound X e)
      · cases e
    all_goals (cases e)
theorem rvsK_sound {K : Frag} {H0 : Heap} (X : K.In H0) : ∀ {n : Nat} {vs : List Value} {ds : List PyData}, rvsK K n vs = some ds → RVs H0 [] vs ds
  | 0, _, _, e => by rw [rvsK] at e; cases e
  | _ + 1, [], _, e => by rw [rvsK] at e; cases e; exact .nil
  | n + 1, v :: vs, ds, e => by
    rw [rvsK, Option.bind_eq_some_iff] at e
    obtain ⟨d, e1, e2⟩ := e
    rw [Option.map_eq_some_iff] at e2
    obtain ⟨ds', e2, rfl⟩ := e2
    exact .cons (rvK_sound X e1) (rvsK_sound X e2)
end

/-- a name of the module that bears data -/
theorem ev_globalD {x : Str} {pos : Pos} {v : Value} {d : PyData} (ok : c.Ok G lev) (e : nsIn G.K mainGlobals x = some (some v)) (r : RV G.H0 [] v d) (hx : c.env.kindOf x = some .globalImplicit) (hd : (x == ("__debug__" : Str)) = false := by decide) : Ev G c oc ml (.Name x pos) (.d d) oc := by
  intro tm s Q E S k
  refine ev_global ok e hx hd tm s Q E S fun v' h' tk' S1 => k v' h' tk' ?_
  obtain ⟨m, own, fz, S1⟩ := S1
  obtain rfl : v' = v := S1.tmp _ (.head _)
  exact ⟨m, own, fz, S1.put sub1 (RV.more (by intro _ h; cases h) r)⟩

noncomputable def TopD (G : Glo) (a : Addr) : Prop := ∃ es n, G.K.lookup a = some ⟨.type "dict", none, .dict es n, #[]⟩ ∧ KeysLit G.w.params es.toList
theorem topD47 (I : G.Is) : TopD G 47 := by
  unfold TopD
  rw [I.K]
  refine ⟨_, _, rfl, ?_⟩
  repeat' (first | exact True.intro | refine ⟨⟨_, _, rfl, rfl⟩, ?_⟩)
theorem g_AdaError (I : G.Is) : nsIn G.K mainGlobals (Str.ofString "AdaError") = some (some (.ref 31)) := by rw [I.K]; kernel_rfl
theorem g_BadCode (I : G.Is) : nsIn G.K mainGlobals (Str.ofString "BadCode") = some (some (.ref 44)) := by rw [I.K]; kernel_rfl
theorem g_SHAPES (I : G.Is) : nsIn G.K mainGlobals (Str.ofString "SHAPES") = some (some (.ref 47)) := by rw [I.K]; kernel_rfl
theorem g_LEAVING (I : G.Is) : nsIn G.K mainGlobals (Str.ofString "LEAVING") = some (some (.ref 140)) := by rw [I.K]; kernel_rfl
theorem g_KEEPING (I : G.Is) : nsIn G.K mainGlobals (Str.ofString "KEEPING") = some (some (.ref 141)) := by rw [I.K]; kernel_rfl
theorem g_Code (I : G.Is) : nsIn G.K mainGlobals (Str.ofString "Code") = some (some (.ref 158)) := by rw [I.K]; kernel_rfl
theorem g_shape_of (I : G.Is) : nsIn G.K mainGlobals (Str.ofString "shape_of") = some (some (.ref 169)) := by rw [I.K]; kernel_rfl
theorem g_effect_of (I : G.Is) : nsIn G.K mainGlobals (Str.ofString "effect_of") = some (some (.ref 176)) := by rw [I.K]; kernel_rfl
theorem g_jumps_of (I : G.Is) : nsIn G.K mainGlobals (Str.ofString "jumps_of") = some (some (.ref 183)) := by rw [I.K]; kernel_rfl
theorem g_goes_on (I : G.Is) : nsIn G.K mainGlobals (Str.ofString "goes_on") = some (some (.ref 190)) := by rw [I.K]; kernel_rfl
theorem g_heights_at (I : G.Is) : nsIn G.K mainGlobals (Str.ofString "heights_at") = some (some (.ref 197)) := by rw [I.K]; kernel_rfl
theorem g_codes_used (I : G.Is) : nsIn G.K mainGlobals (Str.ofString "codes_used") = some (some (.ref 204)) := by rw [I.K]; kernel_rfl
theorem g_codes_within (I : G.Is) : nsIn G.K mainGlobals (Str.ofString "codes_within") = some (some (.ref 211)) := by rw [I.K]; kernel_rfl
theorem g_COUNTED (I : G.Is) : nsIn G.K mainGlobals (Str.ofString "COUNTED") = some (some (.ref 212)) := by rw [I.K]; kernel_rfl
theorem g_TRUTHS (I : G.Is) : nsIn G.K mainGlobals (Str.ofString "TRUTHS") = some (some (.ref 213)) := by rw [I.K]; kernel_rfl
theorem g_OPENING (I : G.Is) : nsIn G.K mainGlobals (Str.ofString "OPENING") = some (some (.ref 219)) := by rw [I.K]; kernel_rfl
theorem g_CLOSING (I : G.Is) : nsIn G.K mainGlobals (Str.ofString "CLOSING") = some (some (.ref 220)) := by rw [I.K]; kernel_rfl
theorem g_ENDING (I : G.Is) : nsIn G.K mainGlobals (Str.ofString "ENDING") = some (some (.ref 221)) := by rw [I.K]; kernel_rfl
theorem g_counts_of (I : G.Is) : nsIn G.K mainGlobals (Str.ofString "counts_of") = some (some (.ref 226)) := by rw [I.K]; kernel_rfl
theorem g_check_counts (I : G.Is) : nsIn G.K mainGlobals (Str.ofString "check_counts") = some (some (.ref 231)) := by rw [I.K]; kernel_rfl
theorem g_check_row (I : G.Is) : nsIn G.K mainGlobals (Str.ofString "check_row") = some (some (.ref 238)) := by rw [I.K]; kernel_rfl
theorem g_levels_behind (I : G.Is) : nsIn G.K mainGlobals (Str.ofString "levels_behind") = some (some (.ref 245)) := by rw [I.K]; kernel_rfl
theorem g_state_at (I : G.Is) : nsIn G.K mainGlobals (Str.ofString "state_at") = some (some (.ref 252)) := by rw [I.K]; kernel_rfl
theorem g_check_code (I : G.Is) : nsIn G.K mainGlobals (Str.ofString "check_code") = some (some (.ref 259)) := by rw [I.K]; kernel_rfl
theorem g_greatest_height (I : G.Is) : nsIn G.K mainGlobals (Str.ofString "greatest_height") = some (some (.ref 266)) := by rw [I.K]; kernel_rfl
theorem g__law_kinds (I : G.Is) : nsIn G.K mainGlobals (Str.ofString "_law_kinds") = some (some (.ref 267)) := by rw [I.K]; kernel_rfl
theorem g__law_opens (I : G.Is) : nsIn G.K mainGlobals (Str.ofString "_law_opens") = some (some (.ref 268)) := by rw [I.K]; kernel_rfl
theorem g__law_lasts (I : G.Is) : nsIn G.K mainGlobals (Str.ofString "_law_lasts") = some (some (.ref 273)) := by rw [I.K]; kernel_rfl
theorem g__law_cell (I : G.Is) : nsIn G.K mainGlobals (Str.ofString "_law_cell") = some (some (.ref 280)) := by rw [I.K]; kernel_rfl
theorem g__law_row (I : G.Is) : nsIn G.K mainGlobals (Str.ofString "_law_row") = some (some (.ref 287)) := by rw [I.K]; kernel_rfl
theorem g__law_taken (I : G.Is) : nsIn G.K mainGlobals (Str.ofString "_law_taken") = some (some (.ref 292)) := by rw [I.K]; kernel_rfl
theorem g__law_nest (I : G.Is) : nsIn G.K mainGlobals (Str.ofString "_law_nest") = some (some (.ref 299)) := by rw [I.K]; kernel_rfl
theorem g__law_right (I : G.Is) : nsIn G.K mainGlobals (Str.ofString "_law_right") = some (some (.ref 304)) := by rw [I.K]; kernel_rfl
theorem g_law (I : G.Is) : nsIn G.K mainGlobals (Str.ofString "law") = some (some (.ref 309)) := by rw [I.K]; kernel_rfl
theorem n_len (I : G.Is) : nsIn G.K mainGlobals (Str.ofString "len") = some none := by rw [I.K]; kernel_rfl
theorem n_range (I : G.Is) : nsIn G.K mainGlobals (Str.ofString "range") = some none := by rw [I.K]; kernel_rfl
theorem n_max (I : G.Is) : nsIn G.K mainGlobals (Str.ofString "max") = some none := by rw [I.K]; kernel_rfl
theorem n_sum (I : G.Is) : nsIn G.K mainGlobals (Str.ofString "sum") = some none := by rw [I.K]; kernel_rfl
theorem n_int (I : G.Is) : nsIn G.K mainGlobals (Str.ofString "int") = some none := by rw [I.K]; kernel_rfl
theorem n_tuple (I : G.Is) : nsIn G.K mainGlobals (Str.ofString "tuple") = some none := by rw [I.K]; kernel_rfl
theorem n_isinstance (I : G.Is) : nsIn G.K mainGlobals (Str.ofString "isinstance") = some none := by rw [I.K]; kernel_rfl
theorem n_list (I : G.Is) : nsIn G.K mainGlobals (Str.ofString "list") = some none := by rw [I.K]; kernel_rfl
theorem topD141 (I : G.Is) : TopD G 141 := by
  unfold TopD
  rw [I.K]
  refine ⟨_, _, rfl, ?_⟩
  repeat' (first | exact True.intro | refine ⟨⟨_, _, rfl, rfl⟩, ?_⟩)
theorem topD212 (I : G.Is) : TopD G 212 := by
  unfold TopD
  rw [I.K]
  refine ⟨_, _, rfl, ?_⟩
  repeat' (first | exact True.intro | refine ⟨⟨_, _, rfl, rfl⟩, ?_⟩)
theorem topD213 (I : G.Is) : TopD G 213 := by
  unfold TopD
  rw [I.K]
  refine ⟨_, _, rfl, ?_⟩
  repeat' (first | exact True.intro | refine ⟨⟨_, _, rfl, rfl⟩, ?_⟩)
theorem topD219 (I : G.Is) : TopD G 219 := by
  unfold TopD
  rw [I.K]
  refine ⟨_, _, rfl, ?_⟩
  repeat' (first | exact True.intro | refine ⟨⟨_, _, rfl, rfl⟩, ?_⟩)
theorem topD220 (I : G.Is) : TopD G 220 := by
  unfold TopD
  rw [I.K]
  refine ⟨_, _, rfl, ?_⟩
  repeat' (first | exact True.intro | refine ⟨⟨_, _, rfl, rfl⟩, ?_⟩)
theorem topD268 (I : G.Is) : TopD G 268 := by
  unfold TopD
  rw [I.K]
  refine ⟨_, _, rfl, ?_⟩
  repeat' (first | exact True.intro | refine ⟨⟨_, _, rfl, rfl⟩, ?_⟩)

theorem d_LEAVING (I : G.Is) : RV G.H0 [] (.ref 140) (.tuple (["jump", "choose", "raise", "endsub", "endbody", "endentry", "enddecls", "endvalue", "refuse", "select"].map fun x => .str (Str.ofString x))) := by
  refine rvK_sound G.X (n := 20) ?_
  rw [I.K]; kernel_rfl
end
end Mine
end
local macro_rules | `(tactic| walk_at "mlk") => `(tactic| first | exact Mine.updm_self | exact List.Mem.head _ | (refine Mine.updm_ne ?_ (by decide); walk_at "mlk") | (refine List.Mem.tail _ ?_; walk_at "mlk"))
section
open PySem PySem.W PyProof.Rows PySem.Calls PySem.Spec
set_option maxRecDepth 100000
namespace Mine
section
variable {G : Glo} {c : Cx} {oc oc1 oc2 oc3 oc' : List (Addr × Cell)} {ml ml1 ml2 ml' : List (Str × Slot)} {tm : List (Value × Slot)} {h h' : Heap} {m : Str → Option Value} {own fz : Led} {lev : Nat} {out : Out}

noncomputable abbrev pS (x : String) : PyData := .str (Str.ofString x)
noncomputable abbrev pSs (l : List String) : List PyData := l.map fun x => .str (Str.ofString x)
theorem depth_str {x : Str} {n : Nat} : min n (PyData.str x).depth ≤ 1000 := by
  have : (PyData.str x).depth = 0 := by simp [PyData.depth]
  rw [this]; omega
noncomputable abbrev leavingD : List PyData := pSs ["jump", "choose", "raise", "endsub", "endbody", "endentry", "enddecls", "endvalue", "refuse", "select"]
theorem leaving_ok : PyData.canLayAll0 leavingD = true := by decide +kernel
theorem bind1 {prog : Program} {name qual : Str} {params : Arguments} {body : List Stmt} {scope : Scope} {cl : List (Str × Addr)} : True := trivial
set_option maxHeartbeats 400000 in
theorem goes_on_c (I : G.Is) (ok : c.Ok G (lev + 1)) {wd : Str} {rest : List PyData} (hw : (PyData.str wd).canLay0 = true) : Cal G c oc ml (.ref 190) [.d (.tuple (.str wd :: rest))] (.d (.bool (!leavingD.any fun y => PyData.eqv y (.str wd)))) oc := by
  refine cal_def (names := [Str.ofString "row"]) ok (by rw [I.K]; rfl) (by rw [I.K]; rfl) ?_ (by decide) rfl (by decide) (fun _ _ h => h) ?_
  · intro s vs hl
    match vs, hl with
    | [v], _ => exact BindsTo.of_eq rfl
  · intro fz g L' ok'
    have okk := ok'.toOk
    exact ex_ret (sx_return (ev_cmp (ev_sub (ev_name okk (by walk_at "mlk")) ev_int (s_tup okk (by decide) (by decide) (by rfl))) (ev_globalD okk (g_LEAVING I) (d_LEAVING I) (by rfl)) (c_notin_tup okk hw leaving_ok depth_str)))
end
end Mine
end
section
open PySem PySem.W PyProof.Rows PySem.Calls PySem.Spec
set_option maxRecDepth 100000
namespace Mine
section
variable {G : Glo} {c : Cx} {oc oc1 oc2 oc3 oc' : List (Addr × Cell)} {ml ml1 ml2 ml' : List (Str × Slot)} {tm : List (Value × Slot)} {h h' : Heap} {m : Str → Option Value} {own fz : Led} {lev : Nat} {out : Out}

theorem sub_nil {α : Type} {l : List α} : ∀ x ∈ ([] : List α), x ∈ l := fun _ h => nomatch h
theorem sub_cons {α : Type} {a : α} {r l : List α} (h : a ∈ l) (hs : ∀ x ∈ r, x ∈ l) : ∀ x ∈ a :: r, x ∈ l := fun x hx => by
  rcases List.mem_cons.mp hx with rfl | hx
  · exact h
  · exact hs x hx

/-! ## items at a counter -/
theorem s_strN {e i : Expr} {x : Str} {k : Nat} {cp : Nat} (hx : x.cps[k]? = some cp) (hk : k < 10000)
    (hs : ∀ o t (k : Int), subscripted i false o (.int k t) = operate [o, .int k t] (getItem o (.int k t)) := by intros; with_unfolding_all rfl) : Bin G c oc ml (subscriptTail e i) (.d (.str x)) (.d (.int (k : Nat))) (.d (.str ⟨#[cp]⟩)) oc := s_str (by omega) (by omega) (by rw [Int.toNat_natCast]; exact hx) (fun o t => hs o t _)
theorem s_tupN1 {e i : Expr} {xs : List PyData} {k : Nat} {x : PyData} (ok : c.Ok G lev) (hx : xs[k + 1]? = some x) (hk : k < 10000)
    (hs : ∀ o t (k : Int), subscripted i false o (.int k t) = operate [o, .int k t] (getItem o (.int k t)) := by intros; with_unfolding_all rfl) : Bin G c oc ml (subscriptTail e i) (.d (.tuple xs)) (.d (.int ((k : Nat) + 1))) (.d x) oc := s_tup ok (by omega) (by omega) (by rw [show ((k : Int) + 1).toNat = k + 1 by omega]; exact hx) (fun o t => hs o t _)
theorem s_listN {e i : Expr} {s1 : Slot} {xs : List PyData} {k : Nat} {x : PyData} (ok : c.Ok G lev) (hl : Lst oc s1 xs) (hx : xs[k]? = some x) (hk : k < 100000)
    (hs : ∀ o t (k : Int), subscripted i false o (.int k t) = operate [o, .int k t] (getItem o (.int k t)) := by intros; with_unfolding_all rfl) : Bin G c oc ml (subscriptTail e i) s1 (.d (.int (k : Nat))) (.d x) oc := s_list ok hl (by omega) (by omega) (by rw [Int.toNat_natCast]; exact hx) (fun o t => hs o t _)

theorem lay_ch {cp : Nat} (h : cp < 128) : (PyData.str ⟨#[cp]⟩).canLay0 = true := by
  simp [PyData.canLay0, PyData.strOk]; omega
theorem c_eqS {x y : Str} (ok : c.Ok G lev) (hx : (PyData.str x).canLay0 = true) (hy : (PyData.str y).canLay0 = true) : Bin G c oc ml (compareOp .Eq) (.d (.str x)) (.d (.str y)) (.d (.bool (x == y))) oc := c_eq ok hx hy depth_str
theorem c_neS {x y : Str} (ok : c.Ok G lev) (hx : (PyData.str x).canLay0 = true) (hy : (PyData.str y).canLay0 = true) : Bin G c oc ml (compareOp .NotEq) (.d (.str x)) (.d (.str y)) (.d (.bool (!(x == y)))) oc := c_ne ok hx hy depth_str
theorem c_eqI {x y : Int} (ok : c.Ok G lev) : Bin G c oc ml (compareOp .Eq) (.d (.int x)) (.d (.int y)) (.d (.bool (x == y))) oc := c_eq ok (by simp [PyData.canLay0]) (by simp [PyData.canLay0]) (by simp [PyData.depth])
theorem c_neI {x y : Int} (ok : c.Ok G lev) : Bin G c oc ml (compareOp .NotEq) (.d (.int x)) (.d (.int y)) (.d (.bool (!(x == y)))) oc := c_ne ok (by simp [PyData.canLay0]) (by simp [PyData.canLay0]) (by simp [PyData.depth])

/-! ## words and rows -/
structure Wd (G : Glo) (wd : Str) (t l : Int) (ps : Str) : Prop where
  lay : (PyData.str wd).canLay0 = true
  sh : ∃ v, nsIn G.K 47 wd = some (some v) ∧ RV G.H0 [] v (.tuple [.int t, .int l, .str ps])
  keep : nsIn G.K 141 wd = some none
  len : ps.cps.size ≤ 10
  asc : ps.cps.all (· < 128) = true

structure RowOk (ps : Str) (rest : List PyData) : Prop where
  len : rest.length = ps.cps.size
  n : ∀ i : Nat, ps.cps[i]? = some 110 → ∃ k, rest[i]? = some (PyData.int k)
  j : ∀ i : Nat, ps.cps[i]? = some 106 → ∃ k, rest[i]? = some (PyData.int k)
  w : ∀ i : Nat, ps.cps[i]? = some 119 → ∃ z, rest[i]? = some (PyData.str z) ∧ (PyData.str z).canLay0 = true
  noJ : ∀ i : Nat, ps.cps[i]? ≠ some 74

theorem kp_169 (I : G.Is) : keepIn G.K (.ref 169) = true := by rw [I.K]; kernel_rfl
theorem kp_176 (I : G.Is) : keepIn G.K (.ref 176) = true := by rw [I.K]; kernel_rfl

set_option maxHeartbeats 400000 in
theorem shape_of_c (I : G.Is) (ok : c.Ok G (lev + 1)) {wd : Str} {t l : Int} {ps : Str} {rest : List PyData} (W : Wd G wd t l ps) (hl : rest.length = ps.cps.size) : Cal G c oc ml (.ref 169) [.d (.tuple (.str wd :: rest))] (.d (.tuple [.int t, .int l, .str ps])) oc := by
  refine cal_def (names := [Str.ofString "row"]) ok (by rw [I.K]; rfl) (by rw [I.K]; rfl) ?_ (by decide) rfl (by decide) (fun _ _ h => h) ?_
  · intro s vs hl
    match vs, hl with
    | [v], _ => exact BindsTo.of_eq rfl
  · intro fz g L' ok'
    have okk := ok'.toOk
    obtain ⟨es, n, hlk, hkl⟩ := topD47 I
    obtain ⟨v, hv, rv⟩ := W.sh
    have hlen := W.len
    refine ex_cons (sx_if_f (tr_eq (tr_cmp (ev_sub (ev_name (by assumption) (by walk_at "mlk")) ev_int (s_tup okk (by decide) (by decide) (by rfl))) (ev_global okk (g_SHAPES I) (by rfl)) (c_notin_top okk hlk hkl hv (by decide))) (by rfl)) ex_nil) ?_
    refine ex_cons (sx_assign ok' (ev_sub (ev_global okk (g_SHAPES I) (by rfl)) (ev_sub (ev_name (by assumption) (by walk_at "mlk")) ev_int (s_tup okk (by decide) (by decide) (by rfl))) (s_top okk hlk hkl hv rv)) (by rfl)) ?_
    refine ex_cons (sx_if_f (tr_eq (tr_cmp (ev_callb (ev_builtin okk (n_len I) (by rfl) (by decide) (by rfl)) (evl_cons (ev_name (by assumption) (by walk_at "mlk")) evl_nil) (k_len_tup okk (by simp [hl]; omega)))
      (ev_bin ev_int (ev_callb (ev_builtin okk (n_len I) (by rfl) (by decide) (by rfl)) (evl_cons (ev_sub (ev_name (by assumption) (by walk_at "mlk")) ev_int (s_tup okk (by decide) (by decide) (by rfl))) evl_nil) (k_len_str (by show ps.cps.size ≤ 10000; omega))) b_add) (c_neI okk)) ?_) ex_nil) ?_
    · show (!(((.str wd :: rest : List PyData).length : Int) == 1 + (ps.cps.size : Int))) = false
      rw [List.length_cons, hl]
      simp; omega
    · exact ex_ret (sx_return (ev_name (by assumption) (by walk_at "mlk")))

/-- what a mark adds to the count -/
noncomputable def eff1 (cp : Nat) (x : PyData) (t : Int) : Int :=
  if cp = 110 then (match x with | .int k => t + k | _ => t)
  else if cp = 119 then (match x with | .str z => if z == Str.ofString "else" then t else t + 1 | _ => t)
  else t
noncomputable def effN (ps : Str) (rest : List PyData) (t : Int) : Nat → Int
  | 0 => t
  | i + 1 => eff1 (ps.cps.getD i 0) (rest.getD i .none) (effN ps rest t i)

theorem getD_of {α : Type} {l : List α} {i : Nat} {x d : α} (h : l[i]? = some x) : l.getD i d = x := by rw [List.getD_eq_getElem?_getD, h]; rfl
theorem agetD_of {α : Type} {l : Array α} {i : Nat} {x d : α} (h : l[i]? = some x) : l.getD i d = x := by rw [Array.getD_eq_getD_getElem?, h]; rfl
theorem ps_at {ps : Str} {i : Nat} (h : i < ps.cps.size) : ∃ cp, ps.cps[i]? = some cp := ⟨_, Array.getElem?_eq_getElem h⟩
theorem asc_at {ps : Str} (ha : ps.cps.all (· < 128) = true) {i cp : Nat} (h : ps.cps[i]? = some cp) : cp < 128 := by
  obtain ⟨hi, e⟩ := Array.getElem?_eq_some_iff.mp h
  have := Array.all_eq_true.mp ha i hi
  rw [e] at this
  simpa using this
theorem ch_eq {cp k : Nat} {x : Str} (hx : x = ⟨#[k]⟩) : ((⟨#[cp]⟩ : Str) == x) = decide (cp = k) := by
  subst hx
  by_cases h : cp = k
  · subst h; simp
  · rw [decide_eq_false h, beq_eq_false_iff_ne]
    intro e; injection e with e; apply h; simpa using e
theorem lit_n : (Str.ofString "n" : Str) = ⟨#[110]⟩ := by decide
theorem lit_w : (Str.ofString "w" : Str) = ⟨#[119]⟩ := by decide
theorem lit_j : (Str.ofString "j" : Str) = ⟨#[106]⟩ := by decide
theorem lit_J : (Str.ofString "J" : Str) = ⟨#[74]⟩ := by decide
theorem lay_lit (x : String) (h : (Str.ofString x).cps.all (· < 128) = true := by decide +kernel) : (PyData.str (Str.ofString x)).canLay0 = true := by
  simp only [PyData.canLay0, PyData.strOk]
  rw [Array.all_eq_true] at h ⊢
  intro i hi
  have := h i hi
  simp only [decide_eq_true_eq] at this ⊢
  omega

set_option maxHeartbeats 800000 in
theorem effect_of_c (I : G.Is) (ok : c.Ok G (lev + 2)) {wd : Str} {t l : Int} {ps : Str} {rest : List PyData} (W : Wd G wd t l ps) (R : RowOk ps rest) : Cal G c oc ml (.ref 176) [.d (.tuple (.str wd :: rest))] (.d (.tuple [.int (effN ps rest t ps.cps.size), .int l])) oc := by
  refine cal_def (lev := lev + 1) (names := [Str.ofString "row"]) ok (by rw [I.K]; rfl) (by rw [I.K]; rfl) ?_ (by decide) rfl (by decide) (fun _ _ h => h) ?_
  · intro s vs hl
    match vs, hl with
    | [v], _ => exact BindsTo.of_eq rfl
  · intro fz g L' ok'
    have okk := ok'.toOk
    have hlen := W.len
    refine ex_cons (sx_assign_tup (ev_callK okk (ev_global okk (g_shape_of I) (by rfl)) (kp_169 I) (evl_cons (ev_name (by assumption) (by walk_at "mlk")) evl_nil) (shape_of_c I okk W R.len)) (tgt_tup okk (tgtl_cons (tgt_name ok' (by rfl)) (tgtl_cons (tgt_name ok' (by rfl)) (tgtl_cons (tgt_name ok' (by rfl)) tgtl_nil))))) ?_
    refine ex_weak (sub_cons (a := (Str.ofString "row", .d (.tuple (.str wd :: rest)))) (by walk_at "mlk") (sub_cons (a := (Str.ofString "taken", .d (.int t))) (by walk_at "mlk") (sub_cons (a := (Str.ofString "left", .d (.int l))) (by walk_at "mlk") (sub_cons (a := (Str.ofString "parts", .d (.str ps))) (by walk_at "mlk") sub_nil)))) ?_
    refine ex_cons (sx_for (fun _ => oc) (fun i => [(Str.ofString "row", .d (.tuple (.str wd :: rest))), (Str.ofString "taken", .d (.int (effN ps rest t i))), (Str.ofString "left", .d (.int l)), (Str.ofString "parts", .d (.str ps))]) okk
      (ite_range (n := ps.cps.size) okk (ev_builtin okk (n_range I) (by rfl) (by decide) (by rfl)) (ev_callb (ev_builtin okk (n_len I) (by rfl) (by decide) (by rfl)) (evl_cons (ev_name (by assumption) (by walk_at "mlk")) evl_nil) (k_len_str (by show ps.cps.size ≤ 10000; omega))) (by omega)) (fun i _ => tgt_name ok' (by rfl)) (fun tl i hi => ?_)) (ex_ret (sx_return (ev_tuple (evd_cons (ev_name (by assumption) (by walk_at "mlk")) (evd_cons (ev_name (by assumption) (by walk_at "mlk")) evd_nil)))))
    refine ⟨_, .inl rfl, ?_⟩
    obtain ⟨cp, hcp⟩ := ps_at hi
    have hasc := asc_at W.asc hcp
    have hstep : effN ps rest t (i + 1) = eff1 cp (rest.getD i .none) (effN ps rest t i) := by rw [effN, agetD_of hcp]
    refine ex_cons (sx_if (tr_cmp (ev_sub (ev_name (by assumption) (by walk_at "mlk")) (ev_name (by assumption) (by walk_at "mlk")) (s_strN hcp (by omega))) ev_str (c_eqS okk (lay_ch hasc) (lay_lit "n"))) (fun hb => ?_) (fun hb => ?_)) ex_nil
    · rw [ch_eq lit_n, decide_eq_true_eq] at hb
      subst hb
      obtain ⟨k, hk⟩ := R.n i hcp
      rw [hstep, getD_of hk]
      refine ex_weak_next (ex_cons (sx_aug ok' (by rfl) (by walk_at "mlk") (ev_sub (ev_name (by assumption) (by walk_at "mlk")) (ev_bin (ev_name (by assumption) (by walk_at "mlk")) ev_int b_add) (s_tupN1 okk (by rw [List.getElem?_cons_succ]; exact hk) (by omega)))) ex_nil) ?_
      exact sub_cons (by walk_at "mlk") (sub_cons (by simp only [eff1, if_true]; walk_at "mlk") (sub_cons (by walk_at "mlk") (sub_cons (by walk_at "mlk") sub_nil)))
    · rw [ch_eq lit_n, decide_eq_false_iff_not] at hb
      have hlt : i < rest.length := by rw [R.len]; exact hi
      have hx : rest[i]? = some (rest.getD i .none) := by rw [List.getElem?_eq_getElem hlt, List.getD_eq_getElem?_getD, List.getElem?_eq_getElem hlt]; rfl
      by_cases hw : cp = 119
      · subst hw
        obtain ⟨z, hz, hzl⟩ := R.w i hcp
        have he : effN ps rest t (i + 1) = if z == Str.ofString "else" then effN ps rest t i else effN ps rest t i + 1 := by
          rw [hstep, getD_of hz]; simp [eff1]
        rw [he]
        cases hzz : z == Str.ofString "else" with
        | true =>
          rw [if_pos rfl]
          refine ex_cons (sx_if_f (tr_and_t (tr_eq (tr_cmp (ev_sub (ev_name (by assumption) (by walk_at "mlk")) (ev_name (by assumption) (by walk_at "mlk")) (s_strN hcp (by omega))) ev_str (c_eqS okk (lay_ch hasc) (lay_lit "w"))) (by rw [ch_eq lit_w]; rfl)) (tr_and_f (tr_eq (tr_cmp (ev_sub (ev_name (by assumption) (by walk_at "mlk")) (ev_bin (ev_name (by assumption) (by walk_at "mlk")) ev_int b_add) (s_tupN1 okk (by rw [List.getElem?_cons_succ]; exact hz) (by omega))) ev_str (c_neS okk hzl (lay_lit "else"))) (by rw [hzz]; rfl)))) (ex_weak_next ex_nil ?_)) ex_nil
          exact sub_cons (by walk_at "mlk") (sub_cons (by walk_at "mlk") (sub_cons (by walk_at "mlk") (sub_cons (by walk_at "mlk") sub_nil)))
        | false =>
          rw [if_neg Bool.false_ne_true]
          refine ex_cons (sx_if_t (tr_and_t (tr_eq (tr_cmp (ev_sub (ev_name (by assumption) (by walk_at "mlk")) (ev_name (by assumption) (by walk_at "mlk")) (s_strN hcp (by omega))) ev_str (c_eqS okk (lay_ch hasc) (lay_lit "w"))) (by rw [ch_eq lit_w]; rfl)) (tr_and_t (tr_eq (tr_cmp (ev_sub (ev_name (by assumption) (by walk_at "mlk")) (ev_bin (ev_name (by assumption) (by walk_at "mlk")) ev_int b_add) (s_tupN1 okk (by rw [List.getElem?_cons_succ]; exact hz) (by omega))) ev_str (c_neS okk hzl (lay_lit "else"))) (by rw [hzz]; rfl)) tr_and_nil)) (ex_weak_next (ex_cons (sx_aug ok' (by rfl) (by walk_at "mlk") ev_int) ex_nil) ?_)) ex_nil
          exact sub_cons (by walk_at "mlk") (sub_cons (by walk_at "mlk") (sub_cons (by walk_at "mlk") (sub_cons (by walk_at "mlk") sub_nil)))
      · have he : effN ps rest t (i + 1) = effN ps rest t i := by
          rw [hstep]; simp [eff1, hb, hw]
        rw [he]
        refine ex_cons (sx_if_f (tr_and_f (tr_eq (tr_cmp (ev_sub (ev_name (by assumption) (by walk_at "mlk")) (ev_name (by assumption) (by walk_at "mlk")) (s_strN hcp (by omega))) ev_str (c_eqS okk (lay_ch hasc) (lay_lit "w"))) (by rw [ch_eq lit_w]; simpa using hw))) (ex_weak_next ex_nil ?_)) ex_nil
        exact sub_cons (by walk_at "mlk") (sub_cons (by walk_at "mlk") (sub_cons (by walk_at "mlk") (sub_cons (by walk_at "mlk") sub_nil)))
end
end Mine
end
local macro_rules | `(tactic| walk_at "mls") => `(tactic| first | exact Mine.sub_nil | (refine Mine.sub_cons (by walk_at "mlk") ?_; walk_at "mls"))
section
open PySem PySem.W PyProof.Rows PySem.Calls PySem.Spec
set_option maxRecDepth 100000
namespace Mine
section
variable {G : Glo} {c : Cx} {oc oc1 oc2 oc3 oc' : List (Addr × Cell)} {ml ml1 ml2 ml' : List (Str × Slot)} {tm : List (Value × Slot)} {h h' : Heap} {m : Str → Option Value} {own fz : Led} {lev : Nat} {out : Out}

theorem ite_oc {e : Expr} {n : Nat} {elt : Nat → Slot} (he : oc1 = oc2) (h : ItE G c oc ml e n elt oc1) : ItE G c oc ml e n elt oc2 := he ▸ h
noncomputable def jN (ps : Str) (rest : List PyData) : Nat → List PyData
  | 0 => []
  | i + 1 => if ps.cps.getD i 0 = 106 then jN ps rest i ++ [rest.getD i .none] else jN ps rest i
theorem jN_len {ps : Str} {rest : List PyData} : ∀ i, (jN ps rest i).length ≤ i
  | 0 => Nat.le_refl _
  | i + 1 => by
    have := jN_len (ps := ps) (rest := rest) i
    rw [jN]; split
    · rw [List.length_append, List.length_singleton]; omega
    · omega

set_option maxHeartbeats 800000 in
theorem jumps_of_c (I : G.Is) (ok : c.Ok G (lev + 2)) {wd : Str} {t l : Int} {ps : Str} {rest : List PyData} (W : Wd G wd t l ps) (R : RowOk ps rest) : Cal G c oc ml (.ref 183) [.d (.tuple (.str wd :: rest))] (.d (.list (jN ps rest ps.cps.size))) oc := by
  refine cal_def (lev := lev + 1) (names := [Str.ofString "row"]) ok (by rw [I.K]; rfl) (by rw [I.K]; rfl) ?_ (by decide) rfl (by decide) (fun _ _ h => h) ?_
  · intro s vs hl
    match vs, hl with
    | [v], _ => exact BindsTo.of_eq rfl
  · intro fz g L' ok'
    have okk := ok'.toOk
    have hlen := W.len
    refine ex_cons (sx_assign ok' (ev_sub (ev_callK okk (ev_global okk (g_shape_of I) (by rfl)) (kp_169 I) (evl_cons (ev_name (by assumption) (by walk_at "mlk")) evl_nil) (shape_of_c I okk W R.len)) ev_int (s_tup okk (by decide) (by decide) (by rfl))) (by rfl)) ?_
    refine ex_assign_own ok' (by rfl) (evo_list evd_nil) fun a => ?_
    refine ex_weak (ml' := [(Str.ofString "row", .d (.tuple (.str wd :: rest))), (Str.ofString "parts", .d (.str ps)), (Str.ofString "found", .own a)]) (by walk_at "mls") ?_
    refine ex_cons (sx_for (fun i => (a, .lst (jN ps rest i)) :: oc) (fun i => [(Str.ofString "row", .d (.tuple (.str wd :: rest))), (Str.ofString "parts", .d (.str ps)), (Str.ofString "found", .own a)]) okk
      (ite_range (n := ps.cps.size) okk (ev_builtin okk (n_range I) (by rfl) (by decide) (by rfl)) (ev_callb (ev_builtin okk (n_len I) (by rfl) (by decide) (by rfl)) (evl_cons (ev_name (by assumption) (by walk_at "mlk")) evl_nil) (k_len_str (by show ps.cps.size ≤ 10000; omega))) (by omega)) (fun i _ => tgt_name ok' (by rfl)) (fun tl i hi => ?_)) (ex_ret (sx_return (ev_freeze (.inl rfl) (ev_name (by assumption) (by walk_at "mlk")))))
    refine ⟨_, .inl rfl, ?_⟩
    obtain ⟨cp, hcp⟩ := ps_at hi
    have hasc := asc_at W.asc hcp
    have hlt : i < rest.length := by rw [R.len]; exact hi
    have hx : rest[i]? = some (rest.getD i .none) := by rw [List.getElem?_eq_getElem hlt, List.getD_eq_getElem?_getD, List.getElem?_eq_getElem hlt]; rfl
    have hjl := jN_len (ps := ps) (rest := rest) i
    rw [jN, agetD_of hcp]
    by_cases hw : cp = 106
    · subst hw
      rw [if_pos rfl]
      refine ex_cons (sx_if_t (tr_eq (tr_cmp (ev_sub (ev_name (by assumption) (by walk_at "mlk")) (ev_name (by assumption) (by walk_at "mlk")) (s_strN hcp (by omega))) ev_str (c_eqS okk (lay_ch hasc) (lay_lit "j"))) (by rw [ch_eq lit_j]; rfl)) (ex_weak_next (ex_cons (sx_expr (ev_append (pre := []) okk (by walk_at "mlk") (.head _) (ev_sub (ev_name (by assumption) (by walk_at "mlk")) (ev_bin (ev_name (by assumption) (by walk_at "mlk")) ev_int b_add) (s_tupN1 okk (by rw [List.getElem?_cons_succ]; exact hx) (by omega))) (by omega))) ex_nil) (by walk_at "mls"))) ex_nil
    · rw [if_neg hw]
      have hJ : cp ≠ 74 := fun e => R.noJ i (e ▸ hcp)
      refine ex_cons (sx_if_f (tr_eq (tr_cmp (ev_sub (ev_name (by assumption) (by walk_at "mlk")) (ev_name (by assumption) (by walk_at "mlk")) (s_strN hcp (by omega))) ev_str (c_eqS okk (lay_ch hasc) (lay_lit "j"))) (by rw [ch_eq lit_j]; simpa using hw))
        (ex_cons (sx_if_f (tr_eq (tr_cmp (ev_sub (ev_name (by assumption) (by walk_at "mlk")) (ev_name (by assumption) (by walk_at "mlk")) (s_strN hcp (by omega))) ev_str (c_eqS okk (lay_ch hasc) (lay_lit "J"))) (by rw [ch_eq lit_J]; simpa using hJ)) (ex_weak_next ex_nil (by walk_at "mls"))) ex_nil)) ex_nil

theorem kp_183 (I : G.Is) : keepIn G.K (.ref 183) = true := by rw [I.K]; kernel_rfl
theorem kp_190 (I : G.Is) : keepIn G.K (.ref 190) = true := by rw [I.K]; kernel_rfl
noncomputable def goesOn (wd : Str) : Bool := !leavingD.any fun y => PyData.eqv y (.str wd)
noncomputable def heights (ps : Str) (wd : Str) (rest : List PyData) (t l : Int) : List PyData :=
  (if goesOn wd then [.tuple [.int (-1), .int (l - effN ps rest t ps.cps.size)]] else []) ++ (jN ps rest ps.cps.size).map fun p => .tuple [p, .int (l - effN ps rest t ps.cps.size + 0)]
theorem take_snoc {α : Type} {xs : List α} {i : Nat} {d : α} (h : i < xs.length) : xs.take (i + 1) = xs.take i ++ [xs.getD i d] := by
  rw [List.take_add_one, List.getD_eq_getElem?_getD, List.getElem?_eq_getElem h]; rfl

set_option maxHeartbeats 800000 in
theorem heights_at_c (I : G.Is) (ok : c.Ok G (lev + 3)) {wd : Str} {t l : Int} {ps : Str} {rest : List PyData} (W : Wd G wd t l ps) (R : RowOk ps rest) : Cal G c oc ml (.ref 197) [.d (.tuple (.str wd :: rest))] (.d (.list (heights ps wd rest t l))) oc := by
  refine cal_def (lev := lev + 2) (names := [Str.ofString "row"]) ok (by rw [I.K]; rfl) (by rw [I.K]; rfl) ?_ (by decide) rfl (by decide) (fun _ _ h => h) ?_
  · intro s vs hl
    match vs, hl with
    | [v], _ => exact BindsTo.of_eq rfl
  · intro fz g L' ok'
    have okk := ok'.toOk
    have hlen := W.len
    have hjl := jN_len (ps := ps) (rest := rest) ps.cps.size
    obtain ⟨es, n, hlk, hkl⟩ := topD141 I
    refine ex_cons (sx_assign_tup (ev_callK okk (ev_global okk (g_effect_of I) (by rfl)) (kp_176 I) (evl_cons (ev_name (by assumption) (by walk_at "mlk")) evl_nil) (effect_of_c I okk W R)) (tgt_tup okk (tgtl_cons (tgt_name ok' (by rfl)) (tgtl_cons (tgt_name ok' (by rfl)) tgtl_nil)))) ?_
    refine ex_assign_own ok' (by rfl) (evo_list evd_nil) fun a => ?_
    refine ex_weak (ml' := [(Str.ofString "row", .d (.tuple (.str wd :: rest))), (Str.ofString "taken", .d (.int (effN ps rest t ps.cps.size))), (Str.ofString "left", .d (.int l)), (Str.ofString "found", .own a)]) (by walk_at "mls") ?_
    refine ex_cons (oc1 := (a, .lst (if goesOn wd then [.tuple [.int (-1), .int (l - effN ps rest t ps.cps.size)]] else [])) :: oc) (ml1 := [(Str.ofString "row", .d (.tuple (.str wd :: rest))), (Str.ofString "taken", .d (.int (effN ps rest t ps.cps.size))), (Str.ofString "left", .d (.int l)), (Str.ofString "found", .own a)]) ?_ ?_
    · refine sx_if (tr_ev (ev_callK okk (ev_global okk (g_goes_on I) (by rfl)) (kp_190 I) (evl_cons (ev_name (by assumption) (by walk_at "mlk")) evl_nil) (goes_on_c I okk W.lay))) (fun hb => ?_) (fun hb => ?_)
      · rw [show goesOn wd = true from hb, if_pos rfl]
        exact ex_cons (sx_expr (ev_append (pre := []) okk (by walk_at "mlk") (.head _) (ev_tuple (evd_cons (ev_neg ev_int) (evd_cons (ev_bin (ev_name (by assumption) (by walk_at "mlk")) (ev_name (by assumption) (by walk_at "mlk")) b_sub) evd_nil))) (by simp))) ex_nil
      · rw [show goesOn wd = false from hb, if_neg Bool.false_ne_true]
        exact ex_nil
    have fl : (if goesOn wd then [PyData.tuple [.int (-1), .int (l - effN ps rest t ps.cps.size)]] else []).length ≤ 1 := by split <;> simp
    generalize hf : (if goesOn wd then [PyData.tuple [.int (-1), .int (l - effN ps rest t ps.cps.size)]] else []) = f0 at fl
    have hh : heights ps wd rest t l = f0 ++ ((jN ps rest ps.cps.size).take (jN ps rest ps.cps.size).length).map fun p => .tuple [p, .int (l - effN ps rest t ps.cps.size + 0)] := by rw [List.take_length, ← hf]; rfl
    refine ex_cons (sx_for (fun i => (a, .lst (f0 ++ ((jN ps rest ps.cps.size).take i).map fun p => .tuple [p, .int (l - effN ps rest t ps.cps.size + 0)])) :: oc) (fun i => [(Str.ofString "row", .d (.tuple (.str wd :: rest))), (Str.ofString "taken", .d (.int (effN ps rest t ps.cps.size))), (Str.ofString "left", .d (.int l)), (Str.ofString "found", .own a)]) okk
      (ite_oc (oc1 := (a, .lst f0) :: oc) (by simp) (ite_list okk (ev_callK okk (ev_global okk (g_jumps_of I) (by rfl)) (kp_183 I) (evl_cons (ev_name (by assumption) (by walk_at "mlk")) evl_nil) (jumps_of_c (lev := lev) I okk W R)))) (fun i _ => tgt_name ok' (by rfl)) (fun tl i hi => ?_)) (ex_ret (sx_return (ev_eq (ev_freeze (.inl rfl) (ev_name (by assumption) (by walk_at "mlk"))) (by rw [hh]))))
    refine ⟨_, .inl rfl, ?_⟩
    rw [take_snoc (d := .none) hi, List.map_append, ← List.append_assoc]
    refine ex_weak_next (ex_cons (sx_expr (ev_append (pre := []) okk (by walk_at "mlk") (.head _) (ev_tuple (evd_cons (ev_name (by assumption) (by walk_at "mlk")) (evd_cons (ev_bin (ev_bin (ev_name (by assumption) (by walk_at "mlk")) (ev_name (by assumption) (by walk_at "mlk")) b_sub) (ev_get2 (dd := .int 0) (r := none) okk (ev_global okk (g_KEEPING I) (by rfl)) (ev_sub (ev_name (by assumption) (by walk_at "mlk")) ev_int (s_tup okk (by decide) (by decide) (by rfl))) ev_int hlk hkl W.keep (by decide) rfl) b_add) evd_nil))) ?_)) ex_nil) (by walk_at "mls")
    rw [List.length_append, List.length_map, List.length_take]; omega
end
end Mine
end
section
open PySem PySem.W PyProof.Rows PySem.Calls PySem.Spec
set_option maxRecDepth 100000
namespace Mine
section
variable {G : Glo} {c : Cx} {oc oc1 oc2 oc3 oc' : List (Addr × Cell)} {ml ml1 ml2 ml' mlc : List (Str × Slot)} {tm : List (Value × Slot)} {h h' : Heap} {m : Str → Option Value} {own fz : Led} {lev : Nat} {out : Out}

set_option maxHeartbeats 800000 in
theorem codes_used_c (I : G.Is) (ok : c.Ok G (lev + 1)) {wd : Str} {rest : List PyData} (hw : (PyData.str wd).canLay0 = true) (h1 : (wd == Str.ofString "laysub") = false) (h2 : (wd == Str.ofString "laybody") = false) (h3 : (wd == Str.ofString "layprot") = false) (h4 : (wd == Str.ofString "arrayof") = false) :
    Cal G c oc ml (.ref 204) [.d (.tuple (.str wd :: rest))] (.d (.list [])) oc := by
  refine cal_def (names := [Str.ofString "row"]) ok (by rw [I.K]; rfl) (by rw [I.K]; rfl) ?_ (by decide) rfl (by decide) (fun _ _ h => h) ?_
  · intro s vs hl
    match vs, hl with
    | [v], _ => exact BindsTo.of_eq rfl
  · intro fz g L' ok'
    have okk := ok'.toOk
    refine ex_cons (sx_if_f (tr_eq (tr_cmp (ev_sub (ev_name (by assumption) (by walk_at "mlk")) ev_int (s_tup okk (by decide) (by decide) (by rfl))) ev_str (c_eqS okk hw (lay_lit "laysub"))) h1) ex_nil) ?_
    refine ex_cons (sx_if_f (tr_or_f (tr_eq (tr_cmp (ev_sub (ev_name (by assumption) (by walk_at "mlk")) ev_int (s_tup okk (by decide) (by decide) (by rfl))) ev_str (c_eqS okk hw (lay_lit "laybody"))) h2) (tr_or_f (tr_eq (tr_cmp (ev_sub (ev_name (by assumption) (by walk_at "mlk")) ev_int (s_tup okk (by decide) (by decide) (by rfl))) ev_str (c_eqS okk hw (lay_lit "layprot"))) h3) tr_or_nil)) ex_nil) ?_
    refine ex_cons (sx_if_f (tr_eq (tr_cmp (ev_sub (ev_name (by assumption) (by walk_at "mlk")) ev_int (s_tup okk (by decide) (by decide) (by rfl))) ev_str (c_eqS okk hw (lay_lit "arrayof"))) h4) ex_nil) ?_
    exact ex_ret (sx_return (ev_list evd_nil))

theorem seen_nil {scope : Scope} {cl : List (Str × Addr)} : Seen c scope cl ml [] := fun _ h => nomatch h
theorem seen_cons {scope : Scope} {cl : List (Str × Addr)} {y : Str × Slot} (h : y ∈ ml) (k : c.env.kindOf y.1 = some .cell) (k2 : ∀ C, (compEnvC scope cl C c.env).kindOf y.1 = some .cell ∨ (compEnvC scope cl C c.env).kindOf y.1 = some .free) (e : cl.lookup y.1 = c.env.cells.lookup y.1) (hs : Seen c scope cl ml mlc) : Seen c scope cl ml (y :: mlc) := fun z hz => by
  rcases List.mem_cons.mp hz with rfl | hz
  · exact ⟨h, k, fun C => ⟨k2 C, e⟩⟩
  · exact hs z hz

noncomputable def isN (ps : Str) (i : Nat) : Bool := decide (ps.cps.getD i 0 = 110)
noncomputable def countsL (ps : Str) (rest : List PyData) : List PyData := ((List.range ps.cps.size).filter (isN ps)).map fun i => rest.getD i .none

set_option maxHeartbeats 800000 in
theorem counts_of_c (I : G.Is) (ok : c.Ok G (lev + 2)) {wd : Str} {t l : Int} {ps : Str} {rest : List PyData} (W : Wd G wd t l ps) (R : RowOk ps rest) : Cal G c oc ml (.ref 226) [.d (.tuple (.str wd :: rest))] (.d (.list (countsL ps rest))) oc := by
  refine cal_defC (lev := lev + 1) (names := [Str.ofString "row"]) ok (by rw [I.K]; rfl) (by rw [I.K]; rfl) ?_ (by decide) rfl ?_ (by decide) (fun _ _ h => h) ?_
  · intro s vs hl
    match vs, hl with
    | [v], _ => exact BindsTo.of_eq rfl
  · intro x hx
    rw [List.mem_singleton.mp hx]
    exact .inr ⟨rfl, fun _ => rfl⟩
  · intro fz g L' cells cm ok' Y
    have okk := ok'.toOk
    have hlen := W.len
    obtain ⟨o1, o2, rfl, d1, d2⟩ := CellsAre.two Y
    refine ex_assign_cell (pre := []) (a := L' + 1 + 1) (o := o1) ok' (ev_sub (ev_callK okk (ev_global okk (g_shape_of I) (by rfl)) (kp_169 I) (evl_cons (ev_name (by assumption) (by walk_at "mlk")) evl_nil) (shape_of_c I okk W R.len)) ev_int (s_tup okk (by decide) (by decide) (by rfl))) (by rfl) (by rfl) d1 fun o1' v d1' => ?_
    refine ex_ret (sx_ret_drop (pre := [(L' + 1 + 1, .raw o1'), (L' + 1, .raw o2)]) ok' (sx_return (ev_eq (ev_listcomp (mlc := [(Str.ofString "row", .d (.tuple (.str wd :: rest))), (Str.ofString "parts", .d (.str ps))]) (keep := isN ps) (val := fun i => rest.getD i .none) ok'
      (ite_range (n := ps.cps.size) okk (ev_builtin okk (n_range I) (by rfl) (by decide) (by rfl)) (ev_callb (ev_builtin okk (n_len I) (by rfl) (by decide) (by rfl)) (evl_cons (ev_name (by assumption) (by walk_at "mlk")) evl_nil) (k_len_str (by show ps.cps.size ≤ 10000; omega))) (by omega))
      (by rfl) (seen_cons (by walk_at "mlk") (by rfl) (fun C => .inl (by rfl)) (by rfl) (seen_cons (by walk_at "mlk") (by rfl) (fun C => .inl (by rfl)) (by rfl) seen_nil)) (by omega) (fun C tl i hi okc => ?_)) (by rfl))))
    obtain ⟨cp, hcp⟩ := ps_at hi
    have hasc := asc_at W.asc hcp
    have hlt : i < rest.length := by rw [R.len]; exact hi
    have hx : rest[i]? = some (rest.getD i .none) := by rw [List.getElem?_eq_getElem hlt, List.getD_eq_getElem?_getD, List.getElem?_eq_getElem hlt]; rfl
    refine ⟨.inr ⟨_, rfl, tr_eq (tr_cmp (ev_sub (ev_name (by assumption) (by walk_at "mlk")) (ev_name (by assumption) (by walk_at "mlk")) (s_strN hcp (by omega))) ev_str (c_eqS okc (lay_ch hasc) (lay_lit "n"))) (by rw [ch_eq lit_n, isN, agetD_of hcp])⟩, fun _ => ?_⟩
    exact ev_sub (ev_name (by assumption) (by walk_at "mlk")) (ev_bin (ev_name (by assumption) (by walk_at "mlk")) ev_int b_add) (s_tupN1 okc (by rw [List.getElem?_cons_succ]; exact hx) (by omega))
end
end Mine
end
section
open PySem PySem.W PyProof.Rows PySem.Calls PySem.Spec
set_option maxRecDepth 100000
namespace Mine
section
variable {G : Glo} {c : Cx} {oc oc1 oc2 oc3 oc' : List (Addr × Cell)} {ml ml1 ml2 ml' mlc : List (Str × Slot)} {tm : List (Value × Slot)} {h h' : Heap} {m : Str → Option Value} {own fz : Led} {lev : Nat} {out : Out}

theorem kp_226 (I : G.Is) : keepIn G.K (.ref 226) = true := by rw [I.K]; kernel_rfl
theorem tr_and2 {x y : Expr} {pos : Pos} {b1 b2 : Bool} (h1 : Tr G c oc ml x b1 oc) (h2 : b1 = true → Tr G c oc ml y b2 oc) : Tr G c oc ml (.BoolOp .And [x, y] pos) (b1 && b2) oc := by
  cases b1 with
  | false => exact tr_and_f h1
  | true => cases b2 with
    | true => exact tr_and_t h1 (tr_and_t (h2 rfl) tr_and_nil)
    | false => exact tr_and_t h1 (tr_and_f (h2 rfl))
theorem tr_or2 {x y : Expr} {pos : Pos} {b1 b2 : Bool} (h1 : Tr G c oc ml x b1 oc) (h2 : b1 = false → Tr G c oc ml y b2 oc) : Tr G c oc ml (.BoolOp .Or [x, y] pos) (b1 || b2) oc := by
  cases b1 with
  | true => exact tr_or_t h1
  | false => cases b2 with
    | true => exact tr_or_f h1 (tr_or_t (h2 rfl))
    | false => exact tr_or_f h1 (tr_or_f (h2 rfl) tr_or_nil)

theorem eqv_nil {xs : List PyData} : PyData.eqv (.list xs) (.list []) = xs.isEmpty := by cases xs <;> simp [PyData.eqv, PyData.eqvAll]
theorem sieve_any {n : Nat} {keep : Nat → Bool} {val : Nat → PyData} : (!(PyData.eqv (.list (((List.range n).filter keep).map val)) (.list []))) = (List.range n).any keep := by
  rw [eqv_nil, List.isEmpty_map]
  generalize List.range n = l
  induction l with
  | nil => rfl
  | cons a l ih =>
    rw [List.filter_cons, List.any_cons]
    cases keep a with
    | true => simp
    | false => simpa using ih
theorem lay_ints : ∀ {xs : List PyData}, (∀ x ∈ xs, ∃ k, x = .int k) → (PyData.list xs).canLay0 = true
  | [], _ => by simp [PyData.canLay0, PyData.canLayAll0]
  | x :: xs, h => by
    obtain ⟨k, rfl⟩ := h x (.head _)
    have := lay_ints fun y hy => h y (.tail _ hy)
    simp only [PyData.canLay0] at this
    simp [PyData.canLay0, PyData.canLayAll0, this]
theorem lay_nil : (PyData.list []).canLay0 = true := lay_ints fun _ h => nomatch h
theorem depth_nil {n : Nat} : min n (PyData.list []).depth ≤ 1000 := by
  have : (PyData.list []).depth = 1 := by simp [PyData.depth, PyData.depthAll]
  rw [this]; omega
theorem map_getD {ns : List Int} {i : Nat} (h : i < ns.length) : (ns.map PyData.int).getD i .none = .int (ns.getD i 0) := by
  rw [List.getD_eq_getElem?_getD, List.getD_eq_getElem?_getD, List.getElem?_map, List.getElem?_eq_getElem h]; rfl

structure Cc (G : Glo) (wd : Str) (ps : Str) (rest : List PyData) (ns : List Int) (cnt : Option Nat) (tru : List Int) (dis : Option Int) : Prop where
  cs : countsL ps rest = ns.map .int
  nsl : ns.length ≤ 10
  c1 : ∃ r, nsIn G.K 212 wd = some r ∧ (match cnt with | none => r = none | some n => ∃ k tok zs, r = some (.int k tok) ∧ 0 ≤ k ∧ k < 100 ∧ (PyData.str wd :: rest)[k.toNat]? = some (.list zs) ∧ zs.length = n ∧ n ≤ 100)
  t1 : ∃ r ats, nsIn G.K 213 wd = some r ∧ (match r with | none => ats = [] | some v => RV G.H0 [] v (.tuple (ats.map .int))) ∧ ats.length ≤ 5 ∧ tru.length = ats.length ∧ ∀ i : Nat, i < ats.length → 0 ≤ ats.getD i 0 ∧ ats.getD i 0 < 100 ∧ (PyData.str wd :: rest)[(ats.getD i 0).toNat]? = some (.int (tru.getD i 0))
  d1 : ((pSs ["dispatchf", "dispatchp"]).any fun y => PyData.eqv y (.str wd)) = dis.isSome
  d2 : ∀ a, dis = some a → (PyData.str wd :: rest)[2]? = some (.int a)
  need : (cnt.isSome || wd == Str.ofString "op" || ((pSs ["index", "placeindex"]).any fun y => PyData.eqv y (.str wd)) || dis.isSome) = true → ns ≠ []

noncomputable def ccBad (wd : Str) (ns : List Int) (cnt : Option Nat) (tru : List Int) (dis : Option Int) : Bool :=
  (List.range ns.length).any (fun i => decide (ns.getD i 0 < 0)) ||
  ((match cnt with | none => false | some n => !((n : Int) == ns.getD 0 0)) ||
  (((wd == Str.ofString "op" && !(decide (1 ≤ ns.getD 0 0) && decide (ns.getD 0 0 ≤ 2))) || (((pSs ["index", "placeindex"]).any fun y => PyData.eqv y (.str wd)) && ns.getD 0 0 == 0)) ||
  ((List.range tru.length).any (fun i => decide (1 < tru.getD i 0)) ||
  ((match dis with | none => false | some a => !(decide (0 ≤ a) && decide (a < ns.getD 0 0))) || false))))

theorem lays_of (l : List String) (h : (l.all fun x => (Str.ofString x).cps.all (· < 128)) = true := by decide +kernel) : PyData.canLayAll0 (pSs l) = true := by
  induction l with
  | nil => simp [PyData.canLayAll0]
  | cons x l ih =>
    rw [List.all_cons, Bool.and_eq_true] at h
    have h1 := lay_lit x h.1
    have h2 := ih h.2
    simp only [List.map_cons, PyData.canLayAll0, h1, h2, Bool.and_self]


theorem head_int {ns : List Int} (h : ns ≠ []) : (ns.map PyData.int)[(0 : Int).toNat]? = some (.int (ns.getD 0 0)) := by
  cases ns with
  | nil => exact absurd rfl h
  | cons a r => rfl

set_option maxHeartbeats 1600000 in
theorem check_counts_c (I : G.Is) (ok : c.Ok G (lev + 3)) {wd : Str} {t l : Int} {ps : Str} {rest : List PyData} {ns : List Int} {cnt : Option Nat} {tru : List Int} {dis : Option Int} (W : Wd G wd t l ps) (R : RowOk ps rest) (C : Cc G wd ps rest ns cnt tru dis) : CalB G c oc ml (.ref 231) [.d (.tuple (.str wd :: rest))] oc (ccBad wd ns cnt tru dis) := by
  refine cal_defCB (lev := lev + 2) (names := [Str.ofString "row"]) ok (by rw [I.K]; rfl) (by rw [I.K]; rfl) ?_ (by decide) rfl ?_ (by decide) (fun _ _ h => h) ?_
  · intro s vs hl
    match vs, hl with
    | [v], _ => exact BindsTo.of_eq rfl
  · intro x hx
    rw [List.mem_singleton.mp hx]
    exact .inr ⟨rfl, fun _ => rfl⟩
  · intro fz g L' cells cm ok' Y
    have okk := ok'.toOk
    obtain ⟨o, rfl, d1⟩ := CellsAre.one Y
    refine ⟨[(L' + 1, .raw o)], [(Str.ofString "row", .d (.tuple (.str wd :: rest))), (Str.ofString "counts", .d (.list (ns.map .int)))], ?_⟩
    have nsl := C.nsl
    refine ex_cons (sx_assign ok' (ev_eq (ev_callK okk (ev_global okk (g_counts_of I) (by rfl)) (kp_226 I) (evl_cons (ev_name (by assumption) (by walk_at "mlk")) evl_nil) (counts_of_c (lev := lev) I okk W R)) (by rw [C.cs])) (by rfl)) ?_
    refine ex_weak (ml' := [(Str.ofString "row", .d (.tuple (.str wd :: rest))), (Str.ofString "counts", .d (.list (ns.map .int)))]) (by walk_at "mls") ?_
    unfold ccBad
    refine ex_guard ?t1 (sx_raise I okk (ev_global okk (g_BadCode I) (by rfl))) fun _ => ex_guard ?t2 (sx_raise I okk (ev_global okk (g_BadCode I) (by rfl))) fun _ => ex_guard ?t3 (sx_raise I okk (ev_global okk (g_BadCode I) (by rfl))) fun _ => ex_guard ?t4 (sx_raise I okk (ev_global okk (g_BadCode I) (by rfl))) fun _ => ex_guard ?t5 (sx_raise I okk (ev_global okk (g_BadCode I) (by rfl))) fun _ => ex_nil
    case t1 =>
      refine tr_eq (tr_cmp (ev_listcomp (mlc := []) (keep := fun i => decide (ns.getD i 0 < 0)) (val := fun i => .int (ns.getD i 0)) ok' (ite_list okk (ev_name (by assumption) (by walk_at "mlk"))) (by rfl) seen_nil (by simp; omega) (fun C tl i hi okc => ⟨.inr ⟨_, rfl, tr_cmp (ev_eq (ev_name (by assumption) (by walk_at "mlk")) (by rw [map_getD (by simpa using hi)])) ev_int c_lt⟩, fun _ => ev_eq (ev_name (by assumption) (by walk_at "mlk")) (by rw [map_getD (by simpa using hi)])⟩)) (ev_list evd_nil) (c_ne okk (lay_ints ?_) lay_nil depth_nil)) ?_
      · intro x hx
        obtain ⟨i, _, rfl⟩ := List.mem_map.mp hx
        exact ⟨_, rfl⟩
      · rw [sieve_any, List.length_map]
    case t2 =>
      obtain ⟨es, n, hlk, hkl⟩ := topD212 I
      obtain ⟨r, hr, hm⟩ := C.c1
      have hneed := C.need
      cases cnt with
      | none =>
        subst hm
        exact tr_and_f (tr_cmp (ev_sub (ev_name (by assumption) (by walk_at "mlk")) ev_int (s_tup (by assumption) (by decide) (by decide) (by rfl))) (ev_global okk (g_COUNTED I) (by rfl)) (c_in_top okk hlk hkl hr (by decide)))
      | some len =>
        obtain ⟨k, tok, zs, rfl, h0, h1, hx, hz, hl⟩ := hm
        have hne : ns ≠ [] := hneed (by simp)
        refine tr_eq (tr_and2 (b1 := true) (tr_cmp (ev_sub (ev_name (by assumption) (by walk_at "mlk")) ev_int (s_tup (by assumption) (by decide) (by decide) (by rfl))) (ev_global okk (g_COUNTED I) (by rfl)) (c_in_top okk hlk hkl hr (by decide))) fun _ => tr_cmp (ev_callb (ev_builtin okk (n_len I) (by rfl) (by decide) (by rfl)) (evl_cons (ev_sub (ev_name (by assumption) (by walk_at "mlk")) (ev_sub (ev_global okk (g_COUNTED I) (by rfl)) (ev_sub (ev_name (by assumption) (by walk_at "mlk")) ev_int (s_tup (by assumption) (by decide) (by decide) (by rfl))) (s_top okk hlk hkl hr (RV.int k tok))) (s_tup okk h0 (by omega) hx)) evl_nil) (k_len_lst okk (.inl rfl) (by omega))) (ev_sub (ev_name (by assumption) (by walk_at "mlk")) ev_int (s_list okk (.inl rfl) (by decide) (by decide) (head_int hne))) (c_neI okk)) ?_
        rw [Bool.true_and, hz]
    case t3 =>
      have hneed := C.need
      refine tr_or2 (tr_and2 (tr_cmp (ev_sub (ev_name (by assumption) (by walk_at "mlk")) ev_int (s_tup (by assumption) (by decide) (by decide) (by rfl))) ev_str (c_eqS okk W.lay (lay_lit "op"))) fun hop => ?_) fun _ => tr_and2 (tr_cmp (ev_sub (ev_name (by assumption) (by walk_at "mlk")) ev_int (s_tup (by assumption) (by decide) (by decide) (by rfl))) (ev_tuple (evd_cons ev_str (evd_cons ev_str evd_nil))) (c_in_tup okk W.lay (lays_of ["index", "placeindex"]) depth_str)) fun hix => ?_
      · have hne : ns ≠ [] := hneed (by rw [hop]; simp)
        exact tr_not (tr_chain ev_int (ev_sub (ev_name (by assumption) (by walk_at "mlk")) ev_int (s_list okk (.inl rfl) (by decide) (by decide) (head_int hne))) c_le ev_int c_le)
      · have hne : ns ≠ [] := hneed (by rw [show ((pSs ["index", "placeindex"]).any fun y => PyData.eqv y (.str wd)) = true from hix]; simp)
        exact tr_cmp (ev_sub (ev_name (by assumption) (by walk_at "mlk")) ev_int (s_list okk (.inl rfl) (by decide) (by decide) (head_int hne))) ev_int (c_eqI okk)
    case t4 =>
      obtain ⟨es, n, hlk, hkl⟩ := topD213 I
      obtain ⟨r, ats, hr, hm, hal, htl, hat⟩ := C.t1
      refine tr_eq (tr_cmp (ev_listcomp (mlc := [(Str.ofString "row", .d (.tuple (.str wd :: rest)))]) (keep := fun i => decide (1 < tru.getD i 0)) (val := fun i => .int (ats.getD i 0)) ok'
        (ite_tup okk (ev_get2 (dd := .tuple []) (r := r) (dr := .tuple (ats.map .int)) okk (ev_global okk (g_TRUTHS I) (by rfl)) (ev_sub (ev_name (by assumption) (by walk_at "mlk")) ev_int (s_tup (by assumption) (by decide) (by decide) (by rfl))) (ev_tuple evd_nil) hlk hkl hr (by decide) (by cases r with | none => (have hm : ats = [] := hm; subst hm; rfl) | some v => exact hm))) (by rfl) (seen_cons (by walk_at "mlk") (by rfl) (fun C => .inl (by rfl)) (by rfl) seen_nil) (by simp; omega)
        (fun C tl i hi okc => ⟨.inr ⟨_, rfl, tr_cmp (ev_sub (ev_name (by assumption) (by walk_at "mlk")) (ev_eq (ev_name (by assumption) (by walk_at "mlk")) (by rw [map_getD (by simpa using hi)])) (s_tup okc (hat i (by simpa using hi)).1 (by have := (hat i (by simpa using hi)).2.1; omega) (hat i (by simpa using hi)).2.2)) ev_int c_gt⟩, fun _ => ev_eq (ev_name (by assumption) (by walk_at "mlk")) (by rw [map_getD (by simpa using hi)])⟩)) (ev_list evd_nil) (c_ne okk (lay_ints ?_) lay_nil depth_nil)) ?_
      · intro x hx
        obtain ⟨i, _, rfl⟩ := List.mem_map.mp hx
        exact ⟨_, rfl⟩
      · rw [sieve_any, List.length_map, htl]
    case t5 =>
      have hneed := C.need
      have hd2 := C.d2
      refine tr_eq (tr_and2 (tr_cmp (ev_sub (ev_name (by assumption) (by walk_at "mlk")) ev_int (s_tup (by assumption) (by decide) (by decide) (by rfl))) (ev_tuple (evd_cons ev_str (evd_cons ev_str evd_nil))) (c_in_tup okk W.lay (lays_of ["dispatchf", "dispatchp"]) depth_str)) (b2 := match dis with | none => false | some a => !(decide (0 ≤ a) && decide (a < ns.getD 0 0))) fun hdi => ?_) ?_
      · have hdi : ((pSs ["dispatchf", "dispatchp"]).any fun y => PyData.eqv y (.str wd)) = true := hdi
        rw [C.d1] at hdi
        cases dis with
        | none => cases hdi
        | some a =>
          have hne : ns ≠ [] := hneed (by simp)
          exact tr_not (tr_chain ev_int (ev_sub (ev_name (by assumption) (by walk_at "mlk")) ev_int (s_tup okk (by decide) (by decide) (hd2 a rfl))) c_le (ev_sub (ev_name (by assumption) (by walk_at "mlk")) ev_int (s_list okk (.inl rfl) (by decide) (by decide) (head_int hne))) c_lt)
      · have := C.d1
        show (((pSs ["dispatchf", "dispatchp"]).any fun y => PyData.eqv y (.str wd)) && _) = _
        rw [this]
        cases dis <;> simp
end
end Mine
end
section
open PySem PySem.W PyProof.Rows PySem.Calls PySem.Spec
set_option maxRecDepth 100000
namespace Mine
section
variable {G : Glo} {c : Cx} {oc oc1 oc2 oc3 oc' : List (Addr × Cell)} {ml ml1 ml2 ml' mlc : List (Str × Slot)} {tm : List (Value × Slot)} {h h' : Heap} {m : Str → Option Value} {own fz : Led} {lev : Nat} {out : Out}

theorem kp_231 (I : G.Is) : keepIn G.K (.ref 231) = true := by rw [I.K]; kernel_rfl
theorem kp_204 (I : G.Is) : keepIn G.K (.ref 204) = true := by rw [I.K]; kernel_rfl

/-- the word is of those that the law uses -/
structure Wx (wd : Str) : Prop where
  laysub : (wd == Str.ofString "laysub") = false
  laybody : (wd == Str.ofString "laybody") = false
  layprot : (wd == Str.ofString "layprot") = false
  arrayof : (wd == Str.ofString "arrayof") = false
  arm : (wd == Str.ofString "arm") = false
  choose : (wd == Str.ofString "choose") = false

set_option maxHeartbeats 1600000 in
theorem check_row_c (I : G.Is) (ok : c.Ok G (lev + 4)) {wd : Str} {t l : Int} {ps : Str} {rest : List PyData} {ns : List Int} {cnt : Option Nat} {tru : List Int} {dis : Option Int} {js : List Int} {size many : Int} (W : Wd G wd t l ps) (X : Wx wd) (R : RowOk ps rest) (C : Cc G wd ps rest ns cnt tru dis)
    (hj : jN ps rest ps.cps.size = js.map .int) (hjs : ∀ j ∈ js, 0 ≤ j ∧ j < size) : CalB G c oc ml (.ref 238) [.d (.tuple (.str wd :: rest)), .d (.int size), .d (.int many)] oc (ccBad wd ns cnt tru dis) := by
  refine cal_defB (lev := lev + 3) (names := [Str.ofString "row", Str.ofString "size", Str.ofString "many"]) ok (by rw [I.K]; rfl) (by rw [I.K]; rfl) ?_ (by decide) rfl (by decide) (fun _ _ h => h) ?_
  · intro s vs hl
    match vs, hl with
    | [v1, v2, v3], _ => exact BindsTo.of_eq rfl
  · intro fz g L' ok'
    have okk := ok'.toOk
    refine ⟨[], [(Str.ofString "row", .d (.tuple (.str wd :: rest))), (Str.ofString "size", .d (.int size))], ?_⟩
    refine ex_weak (ml' := [(Str.ofString "row", .d (.tuple (.str wd :: rest))), (Str.ofString "size", .d (.int size))]) (by walk_at "mls") ?_
    refine ex_callB okk (ev_global okk (g_check_counts I) (by rfl)) (kp_231 I) (evl_cons (ev_name (by assumption) (by walk_at "mlk")) evl_nil) (check_counts_c (lev := lev) I okk W R C) (fun hb => ?_) (fun hb => by rw [hb]; rfl)
    rw [hb, if_neg Bool.false_ne_true]
    refine ex_cons (sx_if_f (tr_or_f (tr_and_f (tr_eq (tr_cmp (ev_sub (ev_name (by assumption) (by walk_at "mlk")) ev_int (s_tup (by assumption) (by decide) (by decide) (by rfl))) ev_str (c_eqS okk W.lay (lay_lit "arm"))) X.arm)) (tr_or_f (tr_and_f (tr_eq (tr_cmp (ev_sub (ev_name (by assumption) (by walk_at "mlk")) ev_int (s_tup (by assumption) (by decide) (by decide) (by rfl))) ev_str (c_eqS okk W.lay (lay_lit "choose"))) X.choose)) tr_or_nil)) ex_nil) ?_
    refine ex_cons (sx_for (fun _ => oc) (fun i => [(Str.ofString "row", .d (.tuple (.str wd :: rest))), (Str.ofString "size", .d (.int size))]) okk (ite_list (xs := js.map .int) okk (ev_eq (ev_callK okk (ev_global okk (g_jumps_of I) (by rfl)) (kp_183 I) (evl_cons (ev_name (by assumption) (by walk_at "mlk")) evl_nil) (jumps_of_c (lev := lev + 1) I okk W R)) (by rw [hj]))) (fun i _ => tgt_name ok' (by rfl)) (fun tl i hi => ⟨_, .inl rfl, ?_⟩)) ?_
    · have hil : i < js.length := by simpa using hi
      have hm : js.getD i 0 ∈ js := by rw [List.getD_eq_getElem?_getD, List.getElem?_eq_getElem hil]; exact List.getElem_mem hil
      obtain ⟨h0, h1⟩ := hjs _ hm
      refine ex_weak_next (ex_cons (sx_if_f (tr_eq (tr_not (tr_chain ev_int (ev_eq (ev_name (by assumption) (by walk_at "mlk")) (by rw [map_getD hil])) c_le (ev_name (by assumption) (by walk_at "mlk")) c_lt)) (by rw [decide_eq_true h0, decide_eq_true h1]; rfl)) ex_nil) ex_nil) (by walk_at "mls")
    · refine ex_cons (sx_for (fun _ => oc) (fun i => [(Str.ofString "row", .d (.tuple (.str wd :: rest))), (Str.ofString "size", .d (.int size))]) okk (ite_list (xs := []) okk (ev_callK okk (ev_global okk (g_codes_used I) (by rfl)) (kp_204 I) (evl_cons (ev_name (by assumption) (by walk_at "mlk")) evl_nil) (codes_used_c (lev := lev + 2) I okk W.lay X.laysub X.laybody X.layprot X.arrayof))) (fun i _ => tgt_name ok' (by rfl)) (fun tl i hi => absurd hi (Nat.not_lt_zero _))) ?_
      exact ex_nil

theorem pickT_last {α : Type} {xs : List α} {y : α} : pickT (xs ++ [y]) (some (-1)) none = [y] := by
  unfold pickT Builtin.Slice.sliceAdjust Builtin.Slice.slicePlaces
  have h1 : ¬ ((1 : Int) < 0) := by omega
  have h2 : (1 : Int) > 0 := by omega
  have h3 : (-1 : Int) < 0 := by omega
  simp only [h1, h2, h3, if_false, if_true, Int.ediv_one, List.length_append, List.length_singleton]
  have e1 : max (-1 + (((xs.length + 1 : Nat) : Int))) 0 = (xs.length : Int) := by omega
  rw [e1]
  have e2 : (if (xs.length : Int) < ((xs.length + 1 : Nat) : Int) then ((xs.length + 1 : Nat) : Int) - xs.length - 1 + 1 else 0).toNat = 1 := by
    rw [if_pos (by omega)]; omega
  rw [e2]
  simp
theorem pickT_last_nil {α : Type} : pickT ([] : List α) (some (-1)) none = [] := by simp [pickT]
theorem pickT_init {α : Type} {xs : List α} {y : α} : pickT (xs ++ [y]) none (some (-1)) = xs := by
  unfold pickT Builtin.Slice.sliceAdjust Builtin.Slice.slicePlaces
  have h1 : ¬ ((1 : Int) < 0) := by omega
  have h2 : (1 : Int) > 0 := by omega
  have h3 : (-1 : Int) < 0 := by omega
  simp only [h1, h2, h3, if_false, if_true, Int.ediv_one, List.length_append, List.length_singleton]
  have e1 : max (-1 + (((xs.length + 1 : Nat) : Int))) 0 = (xs.length : Int) := by omega
  rw [e1]
  have e2 : (if (0 : Int) < (xs.length : Int) then (xs.length : Int) - 0 - 1 + 1 else 0).toNat = xs.length := by
    split <;> omega
  rw [e2]
  have e3 : (fun (k : Nat) => (xs ++ [y])[((0 : Int) + (k : Int) * 1).toNat]?) = fun k => (xs ++ [y])[k]? := by
    funext k
    have : ((0 : Int) + (k : Int) * 1).toNat = k := by omega
    rw [this]
  rw [e3]
  have := pick_run (xs ++ [y]).toArray 0 xs.length
  simp only [Nat.zero_add, List.map_id', List.getElem?_toArray, List.drop_zero] at this
  rw [this]
  simp

noncomputable abbrev pK (ks : List Str) : List PyData := ks.map .str
noncomputable abbrev endingD : List PyData := pSs ["endsub", "endbody", "endentry", "enddecls", "endvalue"]
theorem d_ENDING (I : G.Is) : RV G.H0 [] (.ref 221) (.tuple endingD) := by
  refine rvK_sound G.X (n := 20) ?_
  rw [I.K]; kernel_rfl

/-- what the tables of levels say of a word -/
structure Lv (G : Glo) (wd : Str) (op cl : Option Str) (ending : Bool) : Prop where
  o : ∃ r, nsIn G.K 219 wd = some r ∧ (match op with | none => r = none | some k => (∃ tok, r = some (.str k tok)) ∧ (PyData.str k).canLay0 = true)
  c : ∃ r, nsIn G.K 220 wd = some r ∧ (match cl with | none => r = none | some k => (∃ tok, r = some (.str k tok)) ∧ (PyData.str k).canLay0 = true)
  e : (endingD.any fun y => PyData.eqv y (.str wd)) = ending

noncomputable def lvBehind (op cl : Option Str) (ending : Bool) (ks : List Str) : Option (List Str) :=
  match op with
  | some k => some (ks ++ [k])
  | none => match cl with
    | some k => if ks.getLast? = some k then some ks.dropLast else none
    | none => if ending && !ks.isEmpty then none else some ks

theorem lay_strs : ∀ {ks : List Str}, (∀ k ∈ ks, (PyData.str k).canLay0 = true) → (PyData.tuple (pK ks)).canLay0 = true
  | [], _ => by simp [PyData.canLay0, PyData.canLayAll0]
  | k :: ks, h => by
    have h1 := h k (.head _)
    have := lay_strs fun y hy => h y (.tail _ hy)
    simp only [PyData.canLay0, pK] at this
    simp only [pK, List.map_cons, PyData.canLay0, PyData.canLayAll0, this, Bool.and_true]
    simpa [PyData.canLay0] using h1
theorem depth_strs : ∀ {ks : List Str}, (PyData.tuple (pK ks)).depth = 1
  | [] => by simp [PyData.depth, PyData.depthAll]
  | k :: ks => by
    have := depth_strs (ks := ks)
    simp only [PyData.depth, pK] at this
    simp [PyData.depth, PyData.depthAll, pK]
    omega
theorem eqv_strs : ∀ {xs ys : List Str}, PyData.eqvAll (pK xs) (pK ys) = decide (xs = ys)
  | [], [] => rfl
  | [], _ :: _ => by simp [PyData.eqvAll]
  | _ :: _, [] => by simp [PyData.eqvAll]
  | x :: xs, y :: ys => by
    have := eqv_strs (xs := xs) (ys := ys)
    simp only [pK] at this
    simp only [pK, List.map_cons, PyData.eqvAll, PyData.eqv, this, List.cons.injEq]
    by_cases h : x = y
    · subst h; simp
    · rw [beq_false_of_ne h]; simp [h]
theorem eqv_tuples {xs ys : List Str} : PyData.eqv (.tuple (pK xs)) (.tuple (pK ys)) = decide (xs = ys) := by
  show PyData.eqvAll _ _ = _
  exact eqv_strs

noncomputable def lastL (ks : List Str) : List Str := match ks.getLast? with | none => [] | some y => [y]
theorem nil_or_snoc {α : Type} (l : List α) : l = [] ∨ ∃ r y, l = r ++ [y] := by
  rcases List.eq_nil_or_concat l with h | ⟨r, y, h⟩
  · exact .inl h
  · exact .inr ⟨r, y, by rw [h, List.concat_eq_append]⟩
theorem pick_lastL {ks : List Str} : pickT (pK ks) (some (-1)) none = pK (lastL ks) := by
  rcases nil_or_snoc ks with rfl | ⟨r, y, rfl⟩
  · exact pickT_last_nil
  · rw [pK, List.map_append, List.map_cons, List.map_nil, pickT_last]; simp [lastL]
theorem pick_init {ks : List Str} (h : ks ≠ []) : pickT (pK ks) none (some (-1)) = pK ks.dropLast := by
  rcases nil_or_snoc ks with rfl | ⟨r, y, rfl⟩
  · exact absurd rfl h
  · rw [pK, List.map_append, List.map_cons, List.map_nil, pickT_init]; simp
theorem lastL_iff {ks : List Str} {k : Str} : lastL ks = [k] ↔ ks.getLast? = some k := by
  unfold lastL
  cases ks.getLast? <;> simp
theorem lastL_mem {ks : List Str} : ∀ k ∈ lastL ks, k ∈ ks := by
  intro k hk
  unfold lastL at hk
  cases hg : ks.getLast? with
  | none => rw [hg] at hk; cases hk
  | some y =>
    rw [hg] at hk
    rw [List.mem_singleton.mp hk]
    exact List.mem_of_getLast? hg

set_option maxHeartbeats 1600000 in
theorem levels_behind_c (I : G.Is) (ok : c.Ok G (lev + 1)) {wd : Str} {rest : List PyData} {op cl : Option Str} {ending : Bool} {ks : List Str} (hw : (PyData.str wd).canLay0 = true) (V : Lv G wd op cl ending) (hks : ∀ k ∈ ks, (PyData.str k).canLay0 = true) (hlen : ks.length ≤ 100) :
    CalO G c oc ml (.ref 245) [.d (.tuple (.str wd :: rest)), .d (.tuple (pK ks))] oc ((lvBehind op cl ending ks).map fun ks' => .d (.tuple (pK ks'))) := by
  refine cal_defR (names := [Str.ofString "row", Str.ofString "levels"]) ok (by rw [I.K]; rfl) (by rw [I.K]; rfl) ?_ (by decide) rfl (by decide) (fun _ _ h => h) ?_
  · intro s vs hl
    match vs, hl with
    | [v1, v2], _ => exact BindsTo.of_eq rfl
  · intro fz g L' ok'
    have okk := ok'.toOk
    obtain ⟨es, n, hlk, hkl⟩ := topD219 I
    obtain ⟨es2, n2, hlk2, hkl2⟩ := topD220 I
    refine ⟨[], [(Str.ofString "row", .d (.tuple (.str wd :: rest))), (Str.ofString "levels", .d (.tuple (pK ks)))], ?_⟩
    obtain ⟨r, hr, hm⟩ := V.o
    cases op with
    | some k =>
      obtain ⟨⟨tok, rfl⟩, hkl0⟩ := hm
      refine ex_ret (sx_if_t (tr_cmp (ev_sub (ev_name (by assumption) (by walk_at "mlk")) ev_int (s_tup (by assumption) (by decide) (by decide) (by rfl))) (ev_global okk (g_OPENING I) (by rfl)) (c_in_top okk hlk hkl hr (by decide))) (ex_ret (sx_return (ev_eq (ev_bin (ev_name (by assumption) (by walk_at "mlk")) (ev_tuple (evd_cons (ev_sub (ev_global okk (g_OPENING I) (by rfl)) (ev_sub (ev_name (by assumption) (by walk_at "mlk")) ev_int (s_tup (by assumption) (by decide) (by decide) (by rfl))) (s_top okk hlk hkl hr (RV.str k tok))) evd_nil)) (b_add_tup okk (by simp; omega))) ?_))))
      simp [lvBehind]
    | none =>
      subst hm
      refine ex_cons (sx_if_f (tr_cmp (ev_sub (ev_name (by assumption) (by walk_at "mlk")) ev_int (s_tup (by assumption) (by decide) (by decide) (by rfl))) (ev_global okk (g_OPENING I) (by rfl)) (c_in_top okk hlk hkl hr (by decide))) ex_nil) ?_
      obtain ⟨r2, hr2, hm2⟩ := V.c
      cases cl with
      | some k =>
        obtain ⟨⟨tok, rfl⟩, hkl0⟩ := hm2
        by_cases hg : ks.getLast? = some k
        · have hne : ks ≠ [] := by rintro rfl; cases hg
          have hr : lvBehind none (some k) ending ks = some ks.dropLast := by simp [lvBehind, hg]
          rw [hr]
          refine ex_ret (sx_if_t (tr_cmp (ev_sub (ev_name (by assumption) (by walk_at "mlk")) ev_int (s_tup (by assumption) (by decide) (by decide) (by rfl))) (ev_global okk (g_CLOSING I) (by rfl)) (c_in_top okk hlk2 hkl2 hr2 (by decide))) (ex_cons (sx_if_f (tr_eq (tr_cmp (ev_eq (ev_sub (ev_name (by assumption) (by walk_at "mlk")) (ev_slice (pte_some (ev_neg ev_int)) pte_none pte_none) (s_tup_slice okk (by simp; omega))) (by rw [pick_lastL])) (ev_tuple (evd_cons (ev_sub (ev_global okk (g_CLOSING I) (by rfl)) (ev_sub (ev_name (by assumption) (by walk_at "mlk")) ev_int (s_tup (by assumption) (by decide) (by decide) (by rfl))) (s_top okk hlk2 hkl2 hr2 (RV.str k tok))) evd_nil)) (c_ne okk (lay_strs fun k hk => hks k (lastL_mem k hk)) (lay_strs (ks := [k]) (by intro k' hk; rw [List.mem_singleton.mp hk]; exact hkl0)) (by rw [depth_strs]; omega))) ?_) ex_nil) (ex_ret (sx_return (ev_eq (ev_sub (ev_name (by assumption) (by walk_at "mlk")) (ev_slice pte_none (pte_some (ev_neg ev_int)) pte_none) (s_tup_slice okk (by simp; omega))) (by rw [pick_init hne]))))))
          rw [show ([PyData.str k] : List PyData) = pK [k] from rfl, eqv_tuples, decide_eq_true (lastL_iff.mpr hg)]; rfl
        · have hr : lvBehind none (some k) ending ks = none := by simp [lvBehind, hg]
          rw [hr]
          refine ex_exc (sx_if_t (tr_cmp (ev_sub (ev_name (by assumption) (by walk_at "mlk")) ev_int (s_tup (by assumption) (by decide) (by decide) (by rfl))) (ev_global okk (g_CLOSING I) (by rfl)) (c_in_top okk hlk2 hkl2 hr2 (by decide))) (ex_exc (sx_if_t (tr_eq (tr_cmp (ev_eq (ev_sub (ev_name (by assumption) (by walk_at "mlk")) (ev_slice (pte_some (ev_neg ev_int)) pte_none pte_none) (s_tup_slice okk (by simp; omega))) (by rw [pick_lastL])) (ev_tuple (evd_cons (ev_sub (ev_global okk (g_CLOSING I) (by rfl)) (ev_sub (ev_name (by assumption) (by walk_at "mlk")) ev_int (s_tup (by assumption) (by decide) (by decide) (by rfl))) (s_top okk hlk2 hkl2 hr2 (RV.str k tok))) evd_nil)) (c_ne okk (lay_strs fun k hk => hks k (lastL_mem k hk)) (lay_strs (ks := [k]) (by intro k' hk; rw [List.mem_singleton.mp hk]; exact hkl0)) (by rw [depth_strs]; omega))) ?_) (ex_exc (sx_raise I okk (ev_global okk (g_BadCode I) (by rfl)))))))
          rw [show ([PyData.str k] : List PyData) = pK [k] from rfl, eqv_tuples, decide_eq_false (fun h => hg (lastL_iff.mp h))]; rfl
      | none =>
        subst hm2
        refine ex_cons (sx_if_f (tr_cmp (ev_sub (ev_name (by assumption) (by walk_at "mlk")) ev_int (s_tup (by assumption) (by decide) (by decide) (by rfl))) (ev_global okk (g_CLOSING I) (by rfl)) (c_in_top okk hlk2 hkl2 hr2 (by decide))) ex_nil) ?_
        have tend : ∀ b2, (!decide (ks = [])) = b2 → (ending && b2) = (ending && !ks.isEmpty) := by
          intro b2 h; rw [← h]; cases ks <;> simp
        cases hb : (ending && !ks.isEmpty) with
        | false =>
          have hr : lvBehind none none ending ks = some ks := by simp only [lvBehind, hb]; rfl
          rw [hr]
          refine ex_cons (sx_if_f (tr_eq (tr_and2 (tr_cmp (ev_sub (ev_name (by assumption) (by walk_at "mlk")) ev_int (s_tup (by assumption) (by decide) (by decide) (by rfl))) (ev_globalD okk (g_ENDING I) (d_ENDING I) (by rfl)) (c_in_tup okk hw (lays_of _) depth_str)) fun _ => tr_cmp (ev_name (by assumption) (by walk_at "mlk")) (ev_tuple evd_nil) (c_ne okk (lay_strs hks) (lay_strs (ks := []) fun _ h => nomatch h) (by rw [depth_strs]; omega))) ?_) ex_nil) (ex_ret (sx_return (ev_name (by assumption) (by walk_at "mlk"))))
          rw [show (PyData.tuple []) = PyData.tuple (pK []) from rfl, eqv_tuples, V.e, tend _ rfl, hb]
        | true =>
          have hr : lvBehind none none ending ks = none := by simp only [lvBehind, hb]; rfl
          rw [hr]
          refine ex_exc (sx_if_t (tr_eq (tr_and2 (tr_cmp (ev_sub (ev_name (by assumption) (by walk_at "mlk")) ev_int (s_tup (by assumption) (by decide) (by decide) (by rfl))) (ev_globalD okk (g_ENDING I) (d_ENDING I) (by rfl)) (c_in_tup okk hw (lays_of _) depth_str)) fun _ => tr_cmp (ev_name (by assumption) (by walk_at "mlk")) (ev_tuple evd_nil) (c_ne okk (lay_strs hks) (lay_strs (ks := []) fun _ h => nomatch h) (by rw [depth_strs]; omega))) ?_) (ex_exc (sx_raise I okk (ev_global okk (g_BadCode I) (by rfl)))))
          rw [show (PyData.tuple []) = PyData.tuple (pK []) from rfl, eqv_tuples, V.e, tend _ rfl, hb]
end
end Mine
end
section
open PySem PySem.W PyProof.Rows PySem.Calls PySem.Spec
set_option maxRecDepth 100000
namespace Mine
section
variable {G : Glo} {c : Cx} {oc oc1 oc2 oc3 oc' : List (Addr × Cell)} {ml ml1 ml2 ml' mlc : List (Str × Slot)} {tm : List (Value × Slot)} {h h' : Heap} {m : Str → Option Value} {own fz : Led} {lev : Nat} {out : Out}

structure RowD where
  wd : Str
  rest : List PyData
  t : Int
  l : Int
  ps : Str
  op : Option Str
  cl : Option Str
  ending : Bool
  ns : List Int
  cnt : Option Nat
  tru : List Int
  dis : Option Int
  deriving Inhabited
noncomputable def RowD.data (r : RowD) : PyData := .tuple (.str r.wd :: r.rest)
noncomputable def RowD.eff (r : RowD) : Int := effN r.ps r.rest r.t r.ps.cps.size
structure RowF (G : Glo) (r : RowD) : Prop where
  W : Wd G r.wd r.t r.l r.ps
  R : RowOk r.ps r.rest
  V : Lv G r.wd r.op r.cl r.ending
  X : Wx r.wd
  C : Cc G r.wd r.ps r.rest r.ns r.cnt r.tru r.dis
  lay : r.data.canLay0 = true

noncomputable def stA (rows : List RowD) : Nat → Int × List Str
  | 0 => (0, [])
  | i + 1 => ((stA rows i).1 + ((rows.getD i default).l - (rows.getD i default).eff), (lvBehind (rows.getD i default).op (rows.getD i default).cl (rows.getD i default).ending (stA rows i).2).getD (stA rows i).2)
noncomputable def okA (rows : List RowD) (i : Nat) : Bool := (lvBehind (rows.getD i default).op (rows.getD i default).cl (rows.getD i default).ending (stA rows i).2).isSome && decide ((rows.getD i default).eff ≤ (stA rows i).1)
noncomputable def stD (p : Int × List Str) : PyData := .tuple [.int p.1, .tuple (pK p.2)]
noncomputable def cur (rows : List RowD) (i : Nat) : PyData := .tuple [.int (i : Nat), .int (stA rows i).1, .tuple (pK (stA rows i).2)]
noncomputable def foundA (rows : List RowD) (n i : Nat) : List PyData := (List.range n).map fun k => if k < i then stD (stA rows k) else .none
noncomputable def dupD (rows : List RowD) (pj : Option Nat) (i : Nat) : List PyData := match pj with
  | some p => if p < i then [cur rows (p + 1)] else []
  | none => []
noncomputable def wA (rows : List RowD) (pj : Option Nat) (n i : Nat) : List PyData := if i < n then dupD rows pj i ++ [cur rows i] else if i = n then dupD rows pj n else []

theorem foundA_len {rows : List RowD} {n i : Nat} : (foundA rows n i).length = n := by simp [foundA]
theorem foundA_get {rows : List RowD} {n i k : Nat} (h : k < n) : (foundA rows n i)[k]? = some (if k < i then stD (stA rows k) else .none) := by
  simp [foundA, List.getElem?_range h]
theorem foundA_set {rows : List RowD} {n i : Nat} : (foundA rows n i).set i (stD (stA rows i)) = foundA rows n (i + 1) := by
  refine List.ext_getElem? fun k => ?_
  rw [List.getElem?_set, foundA_len]
  by_cases hk : k < n
  · rw [foundA_get hk, foundA_get hk]
    by_cases h : i = k
    · subst h; rw [if_pos rfl, if_pos hk, if_pos (Nat.lt_succ_self _)]
    · rw [if_neg h]
      by_cases h2 : k < i
      · rw [if_pos h2, if_pos (by omega)]
      · rw [if_neg h2, if_neg (by omega)]
  · rw [List.getElem?_eq_none (by rw [foundA_len]; omega), List.getElem?_eq_none (by rw [foundA_len]; omega)]
    split <;> simp
    omega
theorem foundA_zero {rows : List RowD} {n : Nat} : foundA rows n 0 = (List.replicate n [PyData.none]).flatten := by
  refine List.ext_getElem? fun k => ?_
  have : (List.replicate n [PyData.none]).flatten = List.replicate n PyData.none := by
    induction n with
    | zero => rfl
    | succ n ih => rw [List.replicate_succ, List.flatten_cons, ih]; rfl
  rw [this]
  by_cases hk : k < n
  · rw [foundA_get hk, if_neg (Nat.not_lt_zero _), List.getElem?_replicate, if_pos hk]
  · rw [List.getElem?_eq_none (by rw [foundA_len]; omega), List.getElem?_eq_none (by simp; omega)]
theorem foundA_past {rows : List RowD} {n : Nat} : foundA rows n (n + 1) = foundA rows n n := by
  refine List.map_congr_left fun k hk => ?_
  have := List.mem_range.mp hk
  rw [if_pos (by omega), if_pos this]

theorem st_len {rows : List RowD} : ∀ i, (stA rows i).2.length ≤ i
  | 0 => Nat.le_refl _
  | i + 1 => by
    have ih := st_len (rows := rows) i
    rw [stA]
    show ((lvBehind _ _ _ _).getD _).length ≤ _
    unfold lvBehind
    split
    · simp; omega
    · split
      · split
        · simp; omega
        · simp; omega
      · split
        · simp; omega
        · simp; omega
theorem st_lay {rows : List RowD} (hR : ∀ i, i < rows.length → RowF G (rows.getD i default)) : ∀ i, i ≤ rows.length → ∀ k ∈ (stA rows i).2, (PyData.str k).canLay0 = true
  | 0, _, k, hk => nomatch hk
  | i + 1, hi, k, hk => by
    have ih := st_lay hR i (by omega)
    have V := (hR i (by omega)).V
    rw [stA] at hk
    have hk : k ∈ (lvBehind (rows.getD i default).op (rows.getD i default).cl (rows.getD i default).ending (stA rows i).2).getD (stA rows i).2 := hk
    obtain ⟨r, hr, hm⟩ := V.o
    unfold lvBehind at hk
    split at hk
    · rename_i k' e
      rw [e] at hm
      rcases List.mem_append.mp hk with hk | hk
      · exact ih k hk
      · rw [List.mem_singleton.mp hk]; exact hm.2
    · split at hk
      · split at hk
        · exact ih k (List.dropLast_subset _ hk)
        · exact ih k hk
      · split at hk
        · exact ih k hk
        · exact ih k hk
theorem eqv_stD {p : Int × List Str} : PyData.eqv (stD p) (stD p) = true := by
  have h := eqv_tuples (xs := p.2) (ys := p.2)
  simp only [stD, PyData.eqv, PyData.eqvAll, Bool.and_true, beq_self_eq_true, Bool.true_and] at h ⊢
  rw [h]; simp
theorem lay_stD {p : Int × List Str} (h : ∀ k ∈ p.2, (PyData.str k).canLay0 = true) : (stD p).canLay0 = true := by
  have := lay_strs h
  simp only [PyData.canLay0] at this
  simp [stD, PyData.canLay0, PyData.canLayAll0, this]
theorem depth_stD {p : Int × List Str} : (stD p).depth = 2 := by
  have h := depth_strs (ks := p.2)
  simp only [PyData.depth] at h
  simp [stD, PyData.depth, PyData.depthAll, h]

theorem kp_197 (I : G.Is) : keepIn G.K (.ref 197) = true := by rw [I.K]; kernel_rfl
theorem kp_245 (I : G.Is) : keepIn G.K (.ref 245) = true := by rw [I.K]; kernel_rfl
theorem first_bad (ok : Nat → Bool) (n : Nat) : (∀ i, i < n → ok i = true) ∨ ∃ j, j < n ∧ ok j = false ∧ ∀ i, i < j → ok i = true := by
  induction n with
  | zero => exact .inl fun i h => absurd h (Nat.not_lt_zero _)
  | succ n ih =>
    rcases ih with h | ⟨j, hj, h1, h2⟩
    · cases hn : ok n with
      | true =>
        exact .inl fun i hi => by
          rcases Nat.lt_succ_iff_lt_or_eq.mp hi with hi | rfl
          · exact h i hi
          · exact hn
      | false => exact .inr ⟨n, Nat.lt_succ_self _, hn, h⟩
    · exact .inr ⟨j, by omega, h1, h2⟩
noncomputable def allOk (rows : List RowD) : Bool := (List.range rows.length).all (okA rows)

theorem dupD_len {rows : List RowD} {pj : Option Nat} {i : Nat} : (dupD rows pj i).length ≤ 1 := by
  unfold dupD
  split
  · split <;> simp
  · simp
theorem wA_len {rows : List RowD} {pj : Option Nat} {n i : Nat} : (wA rows pj n i).length ≤ 2 := by
  have := dupD_len (rows := rows) (pj := pj) (i := i)
  have := dupD_len (rows := rows) (pj := pj) (i := n)
  unfold wA
  split
  · rw [List.length_append, List.length_singleton]; omega
  · split
    · omega
    · simp
/-- what a good row pushes -/
theorem pushes {r : RowD} {i n : Nat} {pj : Option Nat} (hgo : goesOn r.wd = decide (i + 1 < n)) (hjp : jN r.ps r.rest r.ps.cps.size = if pj = some i then [.int ((i : Int) + 1)] else []) (hpj : pj = some i → i + 1 < n) :
    ∃ (k : Nat) (pl ch : Nat → Int), (heights r.ps r.wd r.rest r.t r.l).length = k ∧ (∀ q, q < k → (heights r.ps r.wd r.rest r.t r.l).getD q .none = .tuple [.int (pl q), .int (ch q)] ∧ (pl q < 0 ∨ pl q = (i : Int) + 1) ∧ ch q = r.l - r.eff) ∧ k = (if i + 1 < n then 1 else 0) + (if pj = some i then 1 else 0) := by
  unfold heights
  rw [hgo, hjp]
  by_cases h1 : i + 1 < n
  · by_cases h2 : pj = some i
    · refine ⟨2, fun q => if q = 0 then -1 else (i : Int) + 1, fun q => r.l - r.eff, by simp [h1, h2], fun q hq => ?_, by simp [h1, h2]⟩
      rcases (by omega : q = 0 ∨ q = 1) with rfl | rfl
      · simp [h1, h2, RowD.eff]
      · simp [h1, h2, RowD.eff]
    · refine ⟨1, fun q => -1, fun q => r.l - r.eff, by simp [h1, h2], fun q hq => ?_, by simp [h1, h2]⟩
      obtain rfl : q = 0 := by omega
      simp [h1, h2, RowD.eff]
  · have h2 : pj ≠ some i := fun h => h1 (hpj h)
    exact ⟨0, fun q => -1, fun q => 0, by simp [h1, h2], fun q hq => absurd hq (Nat.not_lt_zero _), by simp [h1, h2]⟩
theorem wA_next {rows : List RowD} {pj : Option Nat} {n i : Nat} (hi : i < n) (hpj : ∀ p, pj = some p → p + 1 < n) : dupD rows pj i ++ List.replicate ((if i + 1 < n then 1 else 0) + (if pj = some i then 1 else 0)) (cur rows (i + 1)) = wA rows pj n (i + 1) := by
  unfold wA
  by_cases h1 : i + 1 < n
  · rw [if_pos h1, if_pos h1]
    cases pj with
    | none => simp [dupD]
    | some p =>
      by_cases h2 : p = i
      · subst h2
        simp only [dupD, if_neg (Nat.lt_irrefl p), if_pos (Nat.lt_succ_self p)]
        simp [List.replicate]
      · have h3 : ¬ (some p = some i) := fun e => h2 (Option.some.inj e)
        simp only [dupD, if_neg h3]
        by_cases h4 : p < i
        · rw [if_pos h4, if_pos (by omega)]; rfl
        · rw [if_neg h4, if_neg (by omega)]; rfl
  · have h2 : pj ≠ some i := fun h => h1 (hpj i h)
    have h3 : i + 1 = n := by omega
    rw [if_neg h1, if_neg h2, if_neg h1, if_pos h3]
    simp only [Nat.add_zero, List.replicate_zero, List.append_nil]
    cases pj with
    | none => rfl
    | some p =>
      have h4 : p ≠ i := fun e => h2 (by rw [e])
      simp only [dupD]
      by_cases h5 : p < i
      · rw [if_pos h5, if_pos (by omega)]
      · rw [if_neg h5, if_neg (by omega)]
theorem ev_len_cast {v : Value} {sls : List Slot} {i j : Int} (h : Cal G c oc ml v sls (.d (.int i)) oc1) (e : i = j) : Cal G c oc ml v sls (.d (.int j)) oc1 := e ▸ h
set_option maxHeartbeats 3200000 in
theorem state_at_c (I : G.Is) (ok : c.Ok G (lev + 4)) {rows : List RowD} {pj : Option Nat} (hn0 : 0 < rows.length) (hn : rows.length ≤ 100) (hR : ∀ i, i < rows.length → RowF G (rows.getD i default))
    (hgo : ∀ i, i < rows.length → goesOn (rows.getD i default).wd = decide (i + 1 < rows.length))
    (hjp : ∀ i, i < rows.length → jN (rows.getD i default).ps (rows.getD i default).rest (rows.getD i default).ps.cps.size = if pj = some i then [.int ((i : Int) + 1)] else [])
    (hpj : ∀ p, pj = some p → p + 1 < rows.length) :
    CalO G c oc ml (.ref 252) [.d (.list (rows.map RowD.data))] oc (if allOk rows then some (.d (.list ((List.range rows.length).map fun i => stD (stA rows i)))) else none) := by
  refine cal_defR (lev := lev + 3) (names := [Str.ofString "rows"]) ok (by rw [I.K]; rfl) (by rw [I.K]; rfl) ?_ (by decide) rfl (by decide) (fun _ _ h => h) ?_
  · intro s vs hl
    match vs, hl with
    | [v], _ => exact BindsTo.of_eq rfl
  · intro fz g L' ok'
    have okk := ok'.toOk
    have hrow : ∀ i, i < rows.length → (rows.map RowD.data)[i]? = some (rows.getD i default).data := fun i hi => by
      rw [List.getElem?_map, List.getElem?_eq_getElem hi, List.getD_eq_getElem?_getD, List.getElem?_eq_getElem hi]; rfl
    obtain ⟨n', stop, hlow, hst0, hst1⟩ : ∃ n' stop, (∀ i, i < n' → (i < rows.length ∧ okA rows i = true) ∨ (i = rows.length ∧ ∃ p, pj = some p)) ∧ (stop = false → allOk rows = true ∧ wA rows pj rows.length n' = [] ∧ (n' = rows.length ∨ n' = rows.length + 1)) ∧ (stop = true → allOk rows = false ∧ n' < rows.length ∧ okA rows n' = false) := by
      rcases first_bad (okA rows) rows.length with h | ⟨j, hj, h1, h2⟩
      · have hall : allOk rows = true := List.all_eq_true.mpr fun i hi => h i (List.mem_range.mp hi)
        cases hpe : pj with
        | none => exact ⟨rows.length, false, fun i hi => .inl ⟨hi, h i hi⟩, fun _ => ⟨hall, by simp [wA, dupD], .inl rfl⟩, fun h => nomatch h⟩
        | some p =>
          refine ⟨rows.length + 1, false, fun i hi => ?_, fun _ => ⟨hall, by simp [wA], .inr rfl⟩, fun h => nomatch h⟩
          rcases Nat.lt_succ_iff_lt_or_eq.mp hi with hi | rfl
          · exact .inl ⟨hi, h i hi⟩
          · exact .inr ⟨rfl, p, rfl⟩
      · have hall : allOk rows = false := by
          cases hq : allOk rows with
          | false => rfl
          | true => rw [List.all_eq_true.mp hq j (List.mem_range.mpr hj)] at h1; cases h1
        exact ⟨j, true, fun i hi => .inl ⟨by omega, h2 i hi⟩, (fun h => nomatch h), fun _ => ⟨hall, hj, h1⟩⟩
    refine ⟨[], [], ?_⟩
    refine ex_assign_own ok' (by rfl) (evo_mul (n := rows.length) okk (evo_list (evd_cons ev_none evd_nil)) (fun oc' => ev_callb (ev_builtin okk (n_len I) (by rfl) (by decide) (by rfl)) (evl_cons (ev_name (by assumption) (by walk_at "mlk")) evl_nil) (ev_len_cast (k_len_lst okk (.inl rfl) (by simp; omega)) (by simp))) (by simp) (by simp; omega) (by omega)) fun a => ?_
    refine ex_assign_own ok' (by rfl) (evo_list (evd_cons (ev_tuple (evd_cons ev_int (evd_cons ev_int (evd_cons (ev_tuple evd_nil) evd_nil)))) evd_nil)) fun b => ?_
    refine ex_lsw (pre := [(b, .lst [.tuple [.int 0, .int 0, .tuple []]])]) ?_
    refine ex_weak (ml' := [(Str.ofString "rows", .d (.list (rows.map RowD.data))), (Str.ofString "found", .own a), (Str.ofString "waiting", .own b)]) (by walk_at "mls") ?_
    have hw0 : wA rows pj rows.length 0 = [.tuple [.int 0, .int 0, .tuple []]] := by
      have : dupD rows pj 0 = [] := by unfold dupD; cases pj <;> simp
      simp [wA, hn0, this, cur, stA]
    rw [← foundA_zero (rows := rows), ← hw0]
    refine ex_while (n := n') stop (fun i => (b, .lst (wA rows pj rows.length i)) :: (a, .lsw (foundA rows rows.length i)) :: oc) (fun _ => [(Str.ofString "rows", .d (.list (rows.map RowD.data))), (Str.ofString "found", .own a), (Str.ofString "waiting", .own b)]) ?test ?last ?body ?stop ?rest
    case test =>
      intro i hi
      refine tr_eq (tr_own okk (by walk_at "mlk") (.inr ⟨b, rfl, .inl (.head _)⟩) (Nat.le_trans wA_len (by omega))) ?_
      rcases hlow i hi with ⟨h1, _⟩ | ⟨rfl, p, hp⟩
      · simp [wA, h1]
      · have := hpj p hp
        simp only [wA, if_neg (Nat.lt_irrefl _), if_true, dupD, hp, if_pos (show p < rows.length by omega)]
        rfl
    case last =>
      refine tr_eq (tr_own okk (by walk_at "mlk") (.inr ⟨b, rfl, .inl (.head _)⟩) (Nat.le_trans wA_len (by omega))) ?_
      cases stop with
      | false => rw [(hst0 rfl).2.1]; rfl
      | true => simp [wA, (hst1 rfl).2.1]
    case rest =>
      intro hs
      obtain ⟨h1, h2, h3⟩ := hst0 hs
      rw [h1]
      refine ex_ret (sx_ret_drop (pre := [(b, .lst (wA rows pj rows.length n'))]) ok' (sx_return (ev_eq (ev_freezeAt (pre := [(b, .lst (wA rows pj rows.length n'))]) (.inr rfl) (ev_name (by assumption) (by walk_at "mlk"))) ?_)))
      have : foundA rows rows.length n' = foundA rows rows.length rows.length := by
        rcases h3 with rfl | rfl
        · rfl
        · exact foundA_past
      rw [this]
      refine congrArg (fun x => Slot.d (.list x)) (List.map_congr_left fun k hk => ?_)
      rw [if_pos (List.mem_range.mp hk)]
    case body =>
      intro i hi
      rcases hlow i hi with ⟨h1, hok⟩ | ⟨rfl, p, hp⟩
      · obtain ⟨lv', hlv⟩ := Option.isSome_iff_exists.mp (Bool.and_eq_true_iff.mp hok).1
        have heff := of_decide_eq_true (Bool.and_eq_true_iff.mp hok).2
        have F := hR i h1
        have hlay := st_lay hR i (by omega)
        have hsl := st_len (rows := rows) i
        have hst : stA rows (i + 1) = ((stA rows i).1 + ((rows.getD i default).l - (rows.getD i default).eff), lv') := by rw [stA, hlv]; rfl
        have hwi : wA rows pj rows.length i = dupD rows pj i ++ [.tuple [.int (i : Nat), .int (stA rows i).1, .tuple (pK (stA rows i).2)]] := by rw [wA, if_pos h1]; rfl
        have hfi : (foundA rows rows.length i)[i]? = some .none := by rw [foundA_get h1, if_neg (Nat.lt_irrefl _)]
        have hset : (foundA rows rows.length i).set ((i : Nat) : Int).toNat (.tuple [.int (stA rows i).1, .tuple (pK (stA rows i).2)]) = foundA rows rows.length (i + 1) := by rw [Int.toNat_natCast]; exact foundA_set
        refine ⟨_, .inl rfl, ?_⟩
        rw [hwi]
        refine ex_cons (sx_assign_tup (ev_pop (pre := []) okk (by walk_at "mlk") (Nat.le_trans dupD_len (by omega))) (tgt_tup okk (tgtl_cons (tgt_name ok' (by rfl)) (tgtl_cons (tgt_name ok' (by rfl)) (tgtl_cons (tgt_name ok' (by rfl)) tgtl_nil))))) ?_
        refine ex_weak (ml' := [(Str.ofString "rows", .d (.list (rows.map RowD.data))), (Str.ofString "found", .own a), (Str.ofString "waiting", .own b), (Str.ofString "at", .d (.int (i : Nat))), (Str.ofString "height", .d (.int (stA rows i).1)), (Str.ofString "levels", .d (.tuple (pK (stA rows i).2)))]) (by walk_at "mls") ?_
        refine ex_cons (sx_if_f (tr_eq (tr_cmp (ev_sub (ev_name (by assumption) (by walk_at "mlk")) (ev_name (by assumption) (by walk_at "mlk")) (s_listN okk (.inr ⟨a, rfl, .inr (.tail _ (.head _))⟩) hfi (by omega))) ev_none c_isnot_none) (by rfl)) ex_nil) ?_
        refine ex_cons (sx_setitem (pre := [(b, .lst (dupD rows pj i))]) okk (ev_tuple (evd_cons (ev_name (by assumption) (by walk_at "mlk")) (evd_cons (ev_name (by assumption) (by walk_at "mlk")) evd_nil))) (by walk_at "mlk") (ev_name (by assumption) (by walk_at "mlk")) (.inr rfl) (by omega) (by rw [foundA_len]; omega) (by rw [foundA_len]; omega)) ?_
        rw [hset]
        have hcal := levels_behind_c (lev := lev + 2) (oc := (b, .lst (dupD rows pj i)) :: (a, .lsw (foundA rows rows.length (i + 1))) :: oc) (ml := [(Str.ofString "rows", .d (.list (rows.map RowD.data))), (Str.ofString "found", .own a), (Str.ofString "waiting", .own b), (Str.ofString "at", .d (.int (i : Nat))), (Str.ofString "height", .d (.int (stA rows i).1)), (Str.ofString "levels", .d (.tuple (pK (stA rows i).2)))]) (rest := (rows.getD i default).rest) I okk F.W.lay F.V hlay (by omega)
        rw [hlv] at hcal
        refine ex_cons (sx_assign ok' (ev_callK okk (ev_global okk (g_levels_behind I) (by rfl)) (kp_245 I) (evl_cons (ev_sub (ev_name (by assumption) (by walk_at "mlk")) (ev_name (by assumption) (by walk_at "mlk")) (s_listN okk (.inl rfl) (hrow i h1) (by omega))) (evl_cons (ev_name (by assumption) (by walk_at "mlk")) evl_nil)) hcal) (by rfl)) ?_
        refine ex_cons (sx_if_f (tr_eq (tr_cmp (ev_sub (ev_callK okk (ev_global okk (g_effect_of I) (by rfl)) (kp_176 I) (evl_cons (ev_sub (ev_name (by assumption) (by walk_at "mlk")) (ev_name (by assumption) (by walk_at "mlk")) (s_listN okk (.inl rfl) (hrow i h1) (by omega))) evl_nil) (effect_of_c (lev := lev + 1) I okk F.W F.R)) ev_int (s_tup okk (by decide) (by decide) (by rfl))) (ev_name (by assumption) (by walk_at "mlk")) c_gt) (decide_eq_false (by have : (rows.getD i default).eff ≤ (stA rows i).1 := heff; show ¬ ((stA rows i).1 < (rows.getD i default).eff); omega))) ex_nil) ?_
        obtain ⟨k, pl, ch, hk, hpc, hkk⟩ := pushes (hgo i h1) (hjp i h1) (hpj i)
        have hk2 : k ≤ 2 := by rw [hkk]; split <;> split <;> omega
        have hwn : dupD rows pj i ++ List.replicate k (cur rows (i + 1)) = wA rows pj rows.length (i + 1) := by rw [hkk]; exact wA_next h1 hpj
        rw [← hwn]
        subst hk
        refine ex_weak (ml' := [(Str.ofString "rows", .d (.list (rows.map RowD.data))), (Str.ofString "found", .own a), (Str.ofString "waiting", .own b), (Str.ofString "at", .d (.int (i : Nat))), (Str.ofString "height", .d (.int (stA rows i).1)), (Str.ofString "behind", .d (.tuple (pK lv')))]) (by walk_at "mls") ?_
        refine ex_weak_next (ex_cons (sx_for (fun q => (b, .lst (dupD rows pj i ++ List.replicate q (cur rows (i + 1)))) :: (a, .lsw (foundA rows rows.length (i + 1))) :: oc) (fun _ => [(Str.ofString "rows", .d (.list (rows.map RowD.data))), (Str.ofString "found", .own a), (Str.ofString "waiting", .own b), (Str.ofString "at", .d (.int (i : Nat))), (Str.ofString "height", .d (.int (stA rows i).1)), (Str.ofString "behind", .d (.tuple (pK lv')))]) okk
          (ite_oc (oc1 := (b, .lst (dupD rows pj i)) :: (a, .lsw (foundA rows rows.length (i + 1))) :: oc) (by simp) (ite_list okk (ev_callK okk (ev_global okk (g_heights_at I) (by rfl)) (kp_197 I) (evl_cons (ev_sub (ev_name (by assumption) (by walk_at "mlk")) (ev_name (by assumption) (by walk_at "mlk")) (s_listN okk (.inl rfl) (hrow i h1) (by omega))) evl_nil) (heights_at_c (lev := lev) I okk F.W F.R))))
          (fun q hq => by rw [(hpc q hq).1]; exact tgt_tup okk (tgtl_cons (tgt_name ok' (by rfl)) (tgtl_cons (tgt_name ok' (by rfl)) tgtl_nil))) (fun tl q hq => ?_)) ex_nil) (by walk_at "mls")
        · refine ⟨_, .inl rfl, ?_⟩
          obtain ⟨_, hpl, hch⟩ := hpc q hq
          have hdl := dupD_len (rows := rows) (pj := pj) (i := i)
          have hcur : cur rows (i + 1) = .tuple [.int ((i : Int) + 1), .int ((stA rows i).1 + ch q), .tuple (pK lv')] := by
            rw [cur, hst, hch]; simp
          rw [List.replicate_succ', ← List.append_assoc]
          refine ex_weak_next (ex_cons (sx_expr (ev_append (pre := []) okk (by walk_at "mlk") (.head _) (ev_eq (ev_tuple (evd_cons (d := .int ((i : Int) + 1)) ?_ (evd_cons (ev_bin (ev_name (by assumption) (by walk_at "mlk")) (ev_name (by assumption) (by walk_at "mlk")) b_add) (evd_cons (ev_name (by assumption) (by walk_at "mlk")) evd_nil)))) (by rw [hcur])) (by rw [List.length_append, List.length_replicate]; omega))) ex_nil) (by walk_at "mls")
          rcases hpl with h | h
          · exact ev_if_t (tr_eq (tr_cmp (ev_name (by assumption) (by walk_at "mlk")) ev_int c_lt) (decide_eq_true h)) (ev_bin (ev_name (by assumption) (by walk_at "mlk")) ev_int b_add)
          · exact ev_if_f (tr_eq (tr_cmp (ev_name (by assumption) (by walk_at "mlk")) ev_int c_lt) (decide_eq_false (by omega))) (ev_eq (ev_name (by assumption) (by walk_at "mlk")) (by rw [h]))
      · have hpn := hpj p hp
        have hlay := st_lay hR (p + 1) (by omega)
        have hwi : wA rows pj rows.length rows.length = [] ++ [.tuple [.int ((p + 1 : Nat) : Int), .int (stA rows (p + 1)).1, .tuple (pK (stA rows (p + 1)).2)]] := by
          simp only [wA, if_neg (Nat.lt_irrefl _), if_true, dupD, hp, if_pos (show p < rows.length by omega)]
          rfl
        have hfi : (foundA rows rows.length rows.length)[p + 1]? = some (stD (stA rows (p + 1))) := by rw [foundA_get hpn, if_pos hpn]
        have hwn : wA rows pj rows.length (rows.length + 1) = [] := by simp [wA]
        refine ⟨_, .inr rfl, ?_⟩
        rw [hwi, hwn, foundA_past]
        refine ex_cons (sx_assign_tup (ev_pop (pre := []) okk (by walk_at "mlk") (by simp)) (tgt_tup okk (tgtl_cons (tgt_name ok' (by rfl)) (tgtl_cons (tgt_name ok' (by rfl)) (tgtl_cons (tgt_name ok' (by rfl)) tgtl_nil))))) ?_
        refine ex_weak (ml' := [(Str.ofString "rows", .d (.list (rows.map RowD.data))), (Str.ofString "found", .own a), (Str.ofString "waiting", .own b), (Str.ofString "at", .d (.int ((p + 1 : Nat) : Int))), (Str.ofString "height", .d (.int (stA rows (p + 1)).1)), (Str.ofString "levels", .d (.tuple (pK (stA rows (p + 1)).2)))]) (by walk_at "mls") ?_
        refine ex_weak_cont (ex_cont (sx_if_t (tr_eq (tr_cmp (ev_sub (ev_name (by assumption) (by walk_at "mlk")) (ev_name (by assumption) (by walk_at "mlk")) (s_listN okk (.inr ⟨a, rfl, .inr (.tail _ (.head _))⟩) hfi (by omega))) ev_none c_isnot_none) (by rfl)) (ex_cons (sx_if_f (tr_eq (tr_cmp (ev_sub (ev_name (by assumption) (by walk_at "mlk")) (ev_name (by assumption) (by walk_at "mlk")) (s_listN okk (.inr ⟨a, rfl, .inr (.tail _ (.head _))⟩) hfi (by omega))) (ev_tuple (evd_cons (ev_name (by assumption) (by walk_at "mlk")) (evd_cons (ev_name (by assumption) (by walk_at "mlk")) evd_nil))) (c_ne okk (lay_stD hlay) (lay_stD hlay) (by rw [depth_stD]; omega))) ?_) ex_nil) (ex_cont sx_continue)))) (by walk_at "mls")
        show (!(PyData.eqv (stD (stA rows (p + 1))) (stD (stA rows (p + 1))))) = false
        rw [eqv_stD]; rfl
    case stop =>
      intro hs
      obtain ⟨hall, h1, hok⟩ := hst1 hs
      rw [hall]
      refine ⟨oc, [], rfl, ?_⟩
      have F := hR n' h1
      have hlay := st_lay hR n' (by omega)
      have hsl := st_len (rows := rows) n'
      have hwi : wA rows pj rows.length n' = dupD rows pj n' ++ [.tuple [.int (n' : Nat), .int (stA rows n').1, .tuple (pK (stA rows n').2)]] := by rw [wA, if_pos h1]; rfl
      have hfi : (foundA rows rows.length n')[n']? = some .none := by rw [foundA_get h1, if_neg (Nat.lt_irrefl _)]
      have hset : (foundA rows rows.length n').set ((n' : Nat) : Int).toNat (.tuple [.int (stA rows n').1, .tuple (pK (stA rows n').2)]) = foundA rows rows.length (n' + 1) := by rw [Int.toNat_natCast]; exact foundA_set
      refine ex_exc_drop (pre := [(b, .lst (dupD rows pj n')), (a, .lsw (foundA rows rows.length (n' + 1)))]) (ml1 := []) ok' ?_
      rw [hwi]
      refine ex_cons (sx_assign_tup (ev_pop (pre := []) okk (by walk_at "mlk") (Nat.le_trans dupD_len (by omega))) (tgt_tup okk (tgtl_cons (tgt_name ok' (by rfl)) (tgtl_cons (tgt_name ok' (by rfl)) (tgtl_cons (tgt_name ok' (by rfl)) tgtl_nil))))) ?_
      refine ex_weak (ml' := [(Str.ofString "rows", .d (.list (rows.map RowD.data))), (Str.ofString "found", .own a), (Str.ofString "waiting", .own b), (Str.ofString "at", .d (.int (n' : Nat))), (Str.ofString "height", .d (.int (stA rows n').1)), (Str.ofString "levels", .d (.tuple (pK (stA rows n').2)))]) (by walk_at "mls") ?_
      refine ex_cons (sx_if_f (tr_eq (tr_cmp (ev_sub (ev_name (by assumption) (by walk_at "mlk")) (ev_name (by assumption) (by walk_at "mlk")) (s_listN okk (.inr ⟨a, rfl, .inr (.tail _ (.head _))⟩) hfi (by omega))) ev_none c_isnot_none) (by rfl)) ex_nil) ?_
      refine ex_cons (sx_setitem (pre := [(b, .lst (dupD rows pj n'))]) okk (ev_tuple (evd_cons (ev_name (by assumption) (by walk_at "mlk")) (evd_cons (ev_name (by assumption) (by walk_at "mlk")) evd_nil))) (by walk_at "mlk") (ev_name (by assumption) (by walk_at "mlk")) (.inr rfl) (by omega) (by rw [foundA_len]; omega) (by rw [foundA_len]; omega)) ?_
      rw [hset]
      have hcal := levels_behind_c (lev := lev + 2) (oc := (b, .lst (dupD rows pj n')) :: (a, .lsw (foundA rows rows.length (n' + 1))) :: oc) (ml := [(Str.ofString "rows", .d (.list (rows.map RowD.data))), (Str.ofString "found", .own a), (Str.ofString "waiting", .own b), (Str.ofString "at", .d (.int (n' : Nat))), (Str.ofString "height", .d (.int (stA rows n').1)), (Str.ofString "levels", .d (.tuple (pK (stA rows n').2)))]) (rest := (rows.getD n' default).rest) I okk F.W.lay F.V hlay (by omega)
      cases hlv : lvBehind (rows.getD n' default).op (rows.getD n' default).cl (rows.getD n' default).ending (stA rows n').2 with
      | none =>
        rw [hlv] at hcal
        exact ex_exc_drop (pre := []) ok' (ex_exc (sx_assign_x (ev_callKX okk (ev_global okk (g_levels_behind I) (by rfl)) (kp_245 I) (evl_cons (ev_sub (ev_name (by assumption) (by walk_at "mlk")) (ev_name (by assumption) (by walk_at "mlk")) (s_listN okk (.inl rfl) (hrow n' h1) (by omega))) (evl_cons (ev_name (by assumption) (by walk_at "mlk")) evl_nil)) hcal)))
      | some lv' =>
        rw [hlv] at hcal
        have heff : ¬ ((rows.getD n' default).eff ≤ (stA rows n').1) := by
          have := hok
          unfold okA at this
          rw [hlv] at this
          simpa using this
        refine ex_cons (sx_assign ok' (ev_callK okk (ev_global okk (g_levels_behind I) (by rfl)) (kp_245 I) (evl_cons (ev_sub (ev_name (by assumption) (by walk_at "mlk")) (ev_name (by assumption) (by walk_at "mlk")) (s_listN okk (.inl rfl) (hrow n' h1) (by omega))) (evl_cons (ev_name (by assumption) (by walk_at "mlk")) evl_nil)) hcal) (by rfl)) ?_
        refine ex_exc_drop (pre := []) ok' (ex_exc (sx_if_t (tr_eq (tr_cmp (ev_sub (ev_callK okk (ev_global okk (g_effect_of I) (by rfl)) (kp_176 I) (evl_cons (ev_sub (ev_name (by assumption) (by walk_at "mlk")) (ev_name (by assumption) (by walk_at "mlk")) (s_listN okk (.inl rfl) (hrow n' h1) (by omega))) evl_nil) (effect_of_c (lev := lev + 1) I okk F.W F.R)) ev_int (s_tup okk (by decide) (by decide) (by rfl))) (ev_name (by assumption) (by walk_at "mlk")) c_gt) (decide_eq_true (by show (stA rows n').1 < (rows.getD n' default).eff; omega))) (ex_exc (sx_raise I okk (ev_global okk (g_BadCode I) (by rfl))))))
end
end Mine
end
section
open PySem PySem.W PyProof.Rows PySem.Calls PySem.Spec PySem.W.X
set_option maxRecDepth 100000
set_option maxHeartbeats 4000000
namespace Mine
noncomputable def CodeEnd (s : Shared) (a1 a2 : Addr) (Q : Value → Shared → Prop) : Prop := ∀ e d b ox es n k h' tk' news, Mem s.heap h' [] news → (e, ox) ∈ news → ox.cls = .ref 158 → notCls ox = true → ox.dict = some d → (d, dictOf es n) ∈ news →
  getL (Str.ofString "rows") es = some (some (.ref a1)) → getL (Str.ofString "codes") es = some (some (.ref a2)) → getL (Str.ofString "operations") es = some (some (.ref b)) → getL (Str.ofString "barrier") es = some (some .none) →
  (b, (⟨.type "list", none, .seq #[] k, #[]⟩ : Obj)) ∈ news → Q (.ref e) { s with heap := h', toks := tk' }
theorem CodeEnd.use {s : Shared} {a1 a2 : Addr} {Q : Value → Shared → Prop} (k : CodeEnd s a1 a2 Q) {e d b : Addr} {ox : Obj} {es : List DictEntry} {n kk : Nat} {h' : Heap} {tk' : Nat} {news : Led}
  (h1 : Mem s.heap h' [] news) (h2 : (e, ox) ∈ news) (h6 : (d, dictOf es n) ∈ news) (hb : (b, (⟨.type "list", none, .seq #[] kk, #[]⟩ : Obj)) ∈ news) (h3 : ox.cls = .ref 158) (h4 : notCls ox = true) (h5 : ox.dict = some d)
  (g1 : getL (Str.ofString "rows") es = some (some (.ref a1))) (g2 : getL (Str.ofString "codes") es = some (some (.ref a2))) (g3 : getL (Str.ofString "operations") es = some (some (.ref b))) (g4 : getL (Str.ofString "barrier") es = some (some .none)) : Q (.ref e) { s with heap := h', toks := tk' } :=
  k e d b ox es n kk h' tk' news h1 h2 h3 h4 h5 h6 g1 g2 g3 g4 hb
noncomputable def argC : Arguments := by
  refine' (?f : (x : Arguments) → fArgs (inCls (stN pg 7) 0) = x → Arguments) _ _
  case f => exact fun x _ => x
  rotate_left
  conv => lhs; whnf
noncomputable def bodyC : List Stmt := by
  refine' (?f : (x : List Stmt) → fBody (inCls (stN pg 7) 0) = x → List Stmt) _ _
  case f => exact fun x _ => x
  rotate_left
  conv => lhs; whnf
noncomputable def scopeC : Scope := by
  refine' (?f : (x : Scope) → fScope (inCls (stN pg 7) 0) = x → Scope) _ _
  case f => exact fun x _ => x
  rotate_left
  conv => lhs; whnf
noncomputable def o153l : Obj := ⟨.none,.none,(.func ⟨s176,s320,argC,(.stmts bodyC),scopeC,0,[],.none,.none,.none,.none,.none,.none,.none,0⟩),⟨[]⟩⟩
noncomputable def o155l : Obj := ⟨(.type "function"),.none,(.func ⟨s176,s320,argC,(.stmts bodyC),scopeC,3,[],.none,.none,.none,(.str s169 234),.none,(.ref 154),.none,0⟩),⟨[]⟩⟩
noncomputable def fragC (P : Params) : Frag := [(0, o0 (plainProg []) P), (1, o1 (plainProg []) P), (2, o2_3 (plainProg []) P), (3, o3_38 (plainProg []) P), (4, o4 (plainProg []) P), (5, o5 (plainProg []) P), (6, o6 (plainProg []) P), (7, o7 (plainProg []) P), (8, o8 (plainProg []) P), (9, o9 (plainProg []) P), (10, o10 (plainProg []) P), (11, o11 (plainProg []) P), (12, o12_38 (plainProg []) P), (13, o13 (plainProg []) P), (14, o14 (plainProg []) P), (15, o15 (plainProg []) P), (149, o149 (plainProg []) P), (150, o150 (plainProg []) P), (151, o151 (plainProg []) P), (152, o152 (plainProg []) P), (153, o153l), (154, o154 (plainProg []) P), (155, o155l), (156, o156 (plainProg []) P), (157, o157 (plainProg []) P), (158, o158 (plainProg []) P), (159, o159 (plainProg []) P), (160, o160 (plainProg []) P)]
theorem in_C {w : World} {h : Heap} (X : (fragT pg w.params).In h) : (fragC w.params).In h := by
  rw [pE] at X
  exact in_sub (by kernel_rfl) X
local macro_rules | `(tactic| x_close) => `(tactic| (rename CodeEnd _ _ _ _ => kk; refine' CodeEnd.use kk ?k1 ?k2 ?k6 ?kb ?k3 ?k4 ?k5 ?g1 ?g2 ?g3 ?g4; (case k1 => assumption); (case k2 => (repeat' (first | exact List.Mem.head _ | refine' List.Mem.tail _ ?_))); (case k3 => rfl); (case k4 => rfl); (case k5 => rfl); (case k6 => (repeat' (first | exact List.Mem.head _ | refine' List.Mem.tail _ ?_))); (case g1 => rfl); (case g2 => rfl); (case g3 => rfl); (case g4 => rfl); (case kb => (repeat' (first | exact List.Mem.head _ | refine' List.Mem.tail _ ?_)))))
theorem mk_code (p : Program) (w : World) (s : Shared) (a1 a2 : Addr) (Q E : Value → Shared → Prop) (X : (fragC w.params).In s.heap) (k : CodeEnd s a1 a2 Q) :
  wpAny (model p w) fullA (call (.ref 158) [.ref a1, .none, .ref a2]) Q E s := by
  have z : PySem.Challenge.rw_pp0050_01 = PySem.Challenge.rw_pp0050_01 ∧ fragC = fragC := by (k_fill; exact ⟨rfl, rfl⟩)
  clear z
  x_run
end Mine
end
section
open PySem PySem.W PyProof.Rows PySem.Calls PySem.Spec
set_option maxRecDepth 100000
namespace Mine
open PySem.W.X (Mem)
section
variable {G : Glo} {c : Cx} {oc oc1 oc2 oc3 oc' : List (Addr × Cell)} {ml ml1 ml2 ml' : List (Str × Slot)} {tm : List (Value × Slot)} {h h' : Heap} {m : Str → Option Value} {own fz : Led} {lev : Nat} {out : Out}

theorem St0.pushAll (S : St0 G c oc ml tm h m own fz) {news : Led} (hk : ∀ b o, h.get? b = some o → h'.get? b = some o) (hn : ∀ p ∈ news, h'.get? p.1 = some p.2 ∧ h.get? p.1 = none) : St0 G c oc ml tm h' m own (news ++ fz) := by
  have hs : ∀ p ∈ fz, p ∈ news ++ fz := fun p hp => List.mem_append_right _ hp
  refine ⟨S.F.keeps hk, fun p hp => ?_, S.O.more hs, S.nd, fun p hp q hq => ?_, fun x hx => hs x (S.sub x hx), fun el hel x hx => ?_, fun x hx => (S.tmp x hx).more hs⟩
  · have old : ∀ p ∈ own ++ fz, h'.get? p.1 = some p.2 ∧ p.1 ≠ c.L ∧ c.h₀.get? p.1 = none := fun p hp => ⟨hk _ _ (S.N p hp).1, (S.N p hp).2⟩
    rcases List.mem_append.mp hp with hp | hp
    · exact old p (List.mem_append_left _ hp)
    · rcases List.mem_append.mp hp with hp | hp
      · obtain ⟨h1, h2⟩ := hn p hp
        refine ⟨h1, fun e => ?_, kts_none S.F.keep h2⟩
        obtain ⟨oL, _, _, hL, _⟩ := S.F.ns
        have e : p.1 = c.L := e
        rw [e, hL] at h2; cases h2
      · exact old p (List.mem_append_right _ hp)
  · rcases List.mem_append.mp hq with hq | hq
    · intro e
      have h1 := (S.N p (List.mem_append_left _ hp)).1
      rw [e, (hn q hq).2] at h1; cases h1
    · exact S.ap p hp q hq
  · obtain ⟨v, hv, r⟩ := S.V el hel x hx
    exact ⟨v, hv, r.more hs⟩

theorem k_code (I : G.Is) (ok : c.Ok G lev) {rows : List PyData} : Cal G c oc ml (.ref 158) [.d (.list rows), .d .none, .d (.list [])] (.code rows) oc := by
  rintro tm s Q E vs hln ⟨m, own, fz, S⟩ k
  match vs, hln with
  | [v1, v2, v3], _ =>
    have r1 := S.tmp (v1, .d (.list rows)) (.head _)
    have r2 := S.tmp (v2, .d .none) (.tail _ (.head _))
    have r3 := S.tmp (v3, .d (.list [])) (.tail _ (.tail _ (.head _)))
    obtain ⟨a1, o1, x1, n1, rfl, _⟩ := rv_list r1
    obtain rfl := rv_none r2
    obtain ⟨a2, o2, x2, n2, rfl, _⟩ := rv_list r3
    have X : G.K.In s.heap := G.X.keeps (S.up ok).1
    refine wpAny_full (mk_code G.prog G.w s a1 a2 Q E (in_C (I.K ▸ X)) fun e d b ox es n kk h' tk' news M he hc hnc hdi hd g1 g2 g3 g4 hb => k _ h' tk' ?_) ok.hand ?_ ?_
    · have S1 := S.pushAll (mem_keeps M) fun p hp => ⟨(M.nw _ hp).1, (M.nw _ hp).2⟩
      refine ⟨m, own, news ++ fz, S1.put (fun x hx => .tail _ (.tail _ (.tail _ hx))) ⟨e, d, ox, es, n, a1, a2, b, rfl, List.mem_append_left _ he, hc, hnc, hdi, List.mem_append_left _ hd, ⟨g1, ?_⟩, ⟨g2, ?_⟩, ⟨g3, ?_⟩, g4⟩⟩
      · exact RV.more (fun p hp => List.mem_append_right _ hp) r1
      · exact RV.more (fun p hp => List.mem_append_right _ hp) r3
      · exact .list (.inr (List.mem_append_left _ hb)) rfl rfl .nil
    · show c.A₀.depth + 1 ≤ 405
      have := ok.dep; omega
    · show c.A₀.units + 3 ≤ 2010
      have := ok.units; omega

theorem ev_attr {x name : Str} {p pos : Pos} {rows : List PyData} {d : PyData} {attr : Option Value} (ok : c.Ok G lev) (hm : (x, .code rows) ∈ ml) (hg : plainGet G.K 158 name = true) (hh : hasDictIn G.K 158 = true) (ha : findIn G.K (.ref 158) name = some attr) (hn : noGet G.K attr = true)
    (hsel : ∀ fz v, CodeAt G fz v rows → ∃ x dd ox es n u, v = .ref x ∧ (x, ox) ∈ fz ∧ ox.cls = .ref 158 ∧ notCls ox = true ∧ ox.dict = some dd ∧ (dd, dictOf es n) ∈ fz ∧ getL name es = some (some u) ∧ RV G.H0 fz u d ∧ handedIn u = true)
    (hd : (x == ("__debug__" : Str)) = false := by decide) (hc : (x == ("__classdict__" : Str)) = false := by decide) : Ev G c oc ml (.Attribute (.Name x p) name pos) (.d d) oc := by
  intro tm s Q E S k
  refine Attribute_Name_ (ev_name (pos := p) ok hm hd hc tm s _ E S fun v g t S1 => ?_)
  obtain ⟨m, own, fz, S1⟩ := S1
  obtain ⟨x, dd, ox, es, n, u, rfl, h1, h2, h3, h4, h5, h6, h7, h8⟩ := hsel fz v (S1.tmp _ (.head _))
  have g1 := (S1.N _ (List.mem_append_right _ h1)).1
  have g2 := (S1.N _ (List.mem_append_right _ h5)).1
  exact get_own (attr := attr) S1.F (G.X.keeps ok.sub) ⟨g1, h2, h3, by rw [h4]; exact g2⟩ hg hh ha hn h6 h8 (k _ _ _ ⟨m, own, fz, S1.put sub1 h7⟩)
theorem ev_rows {x : Str} {p pos : Pos} {rows : List PyData} (I : G.Is) (ok : c.Ok G lev) (hm : (x, .code rows) ∈ ml) (hd : (x == ("__debug__" : Str)) = false := by decide) (hc : (x == ("__classdict__" : Str)) = false := by decide) : Ev G c oc ml (.Attribute (.Name x p) (Str.ofString "rows") pos) (.d (.list rows)) oc :=
  ev_attr (attr := none) ok hm (by rw [I.K]; kernel_rfl) (by rw [I.K]; kernel_rfl) (by rw [I.K]; kernel_rfl) rfl (fun fz v ⟨x, d, ox, es, n, vr, vc, vo, e, a1, a2, a3, a4, a5, ⟨b1, b2⟩, ⟨b3, b4⟩, ⟨b5, b6⟩, b7⟩ => ⟨x, d, ox, es, n, .ref vr, e, a1, a2, a3, a4, a5, b1, b2, rfl⟩) hd hc
theorem ev_codes {x : Str} {p pos : Pos} {rows : List PyData} (I : G.Is) (ok : c.Ok G lev) (hm : (x, .code rows) ∈ ml) (hd : (x == ("__debug__" : Str)) = false := by decide) (hc : (x == ("__classdict__" : Str)) = false := by decide) : Ev G c oc ml (.Attribute (.Name x p) (Str.ofString "codes") pos) (.d (.list [])) oc :=
  ev_attr (attr := none) ok hm (by rw [I.K]; kernel_rfl) (by rw [I.K]; kernel_rfl) (by rw [I.K]; kernel_rfl) rfl (fun fz v ⟨x, d, ox, es, n, vr, vc, vo, e, a1, a2, a3, a4, a5, ⟨b1, b2⟩, ⟨b3, b4⟩, ⟨b5, b6⟩, b7⟩ => ⟨x, d, ox, es, n, .ref vc, e, a1, a2, a3, a4, a5, b3, b4, rfl⟩) hd hc
theorem ev_operations {x : Str} {p pos : Pos} {rows : List PyData} (I : G.Is) (ok : c.Ok G lev) (hm : (x, .code rows) ∈ ml) (hd : (x == ("__debug__" : Str)) = false := by decide) (hc : (x == ("__classdict__" : Str)) = false := by decide) : Ev G c oc ml (.Attribute (.Name x p) (Str.ofString "operations") pos) (.d (.list [])) oc :=
  ev_attr (attr := none) ok hm (by rw [I.K]; kernel_rfl) (by rw [I.K]; kernel_rfl) (by rw [I.K]; kernel_rfl) rfl (fun fz v ⟨x, d, ox, es, n, vr, vc, vo, e, a1, a2, a3, a4, a5, ⟨b1, b2⟩, ⟨b3, b4⟩, ⟨b5, b6⟩, b7⟩ => ⟨x, d, ox, es, n, .ref vo, e, a1, a2, a3, a4, a5, b5, b6, rfl⟩) hd hc
theorem ev_barrier {x : Str} {p pos : Pos} {rows : List PyData} (I : G.Is) (ok : c.Ok G lev) (hm : (x, .code rows) ∈ ml) (hd : (x == ("__debug__" : Str)) = false := by decide) (hc : (x == ("__classdict__" : Str)) = false := by decide) : Ev G c oc ml (.Attribute (.Name x p) (Str.ofString "barrier") pos) (.d (.none)) oc :=
  ev_attr (attr := none) ok hm (by rw [I.K]; kernel_rfl) (by rw [I.K]; kernel_rfl) (by rw [I.K]; kernel_rfl) rfl (fun fz v ⟨x, d, ox, es, n, vr, vc, vo, e, a1, a2, a3, a4, a5, ⟨b1, b2⟩, ⟨b3, b4⟩, ⟨b5, b6⟩, b7⟩ => ⟨x, d, ox, es, n, .none, e, a1, a2, a3, a4, a5, b7, .none, rfl⟩) hd hc
end
end Mine
end
section
open PySem PySem.W PyProof.Rows PySem.Calls PySem.Spec
set_option maxRecDepth 100000
namespace Mine
section
variable {G : Glo} {c : Cx} {oc oc1 oc2 oc3 oc' : List (Addr × Cell)} {ml ml1 ml2 ml' mlc : List (Str × Slot)} {tm : List (Value × Slot)} {h h' : Heap} {m : Str → Option Value} {own fz : Led} {lev : Nat} {out : Out}

theorem kp_238 (I : G.Is) : keepIn G.K (.ref 238) = true := by rw [I.K]; kernel_rfl
theorem kp_252 (I : G.Is) : keepIn G.K (.ref 252) = true := by rw [I.K]; kernel_rfl
noncomputable def rBad (r : RowD) : Bool := ccBad r.wd r.ns r.cnt r.tru r.dis
noncomputable def codeBad (rows : List RowD) : Bool := (List.range rows.length).any (fun i => rBad (rows.getD i default)) || !allOk rows

theorem lay_list : ∀ {xs : List PyData}, (∀ x ∈ xs, x.canLay0 = true) → (PyData.list xs).canLay0 = true
  | [], _ => lay_nil
  | x :: xs, h => by
    have h1 := h x (.head _)
    have := lay_list fun y hy => h y (.tail _ hy)
    simp only [PyData.canLay0] at this
    simp [PyData.canLay0, PyData.canLayAll0, this, h1]

theorem tr_and2' {x : Expr} {pos : Pos} {b : Bool} (h : Tr G c oc ml x b oc) : Tr G c oc ml (.BoolOp .And [x] pos) b oc := by
  cases b with
  | true => exact tr_and_t h tr_and_nil
  | false => exact tr_and_f h
structure Prog (G : Glo) (rows : List RowD) (pj : Option Nat) : Prop where
  n0 : 0 < rows.length
  n : rows.length ≤ 100
  R : ∀ i, i < rows.length → RowF G (rows.getD i default)
  go : ∀ i, i < rows.length → goesOn (rows.getD i default).wd = decide (i + 1 < rows.length)
  jp : ∀ i, i < rows.length → jN (rows.getD i default).ps (rows.getD i default).rest (rows.getD i default).ps.cps.size = if pj = some i then [.int ((i : Int) + 1)] else []
  pj : ∀ p, pj = some p → p + 1 < rows.length

theorem row_at {rows : List RowD} {i : Nat} (hi : i < rows.length) : (rows.map RowD.data)[i]? = some (rows.getD i default).data := by
  rw [List.getElem?_map, List.getElem?_eq_getElem hi, List.getD_eq_getElem?_getD, List.getElem?_eq_getElem hi]; rfl

set_option maxHeartbeats 1600000 in
theorem check_code_c (I : G.Is) (ok : c.Ok G (lev + 5)) {rows : List RowD} {pj : Option Nat} (P : Prog G rows pj) : CalB G c oc ml (.ref 259) [.code (rows.map RowD.data)] oc (codeBad rows) := by
  refine cal_defB (lev := lev + 4) (names := [Str.ofString "code"]) ok (by rw [I.K]; rfl) (by rw [I.K]; rfl) ?_ (by decide) rfl (by decide) (fun _ _ h => h) ?_
  · intro s vs hl
    match vs, hl with
    | [v], _ => exact BindsTo.of_eq rfl
  · intro fz g L' ok'
    have okk := ok'.toOk
    have hn0 := P.n0
    have hn := P.n
    refine ⟨[], [], ?_⟩
    have hlast := P.go (rows.length - 1) (by omega)
    rw [decide_eq_false (by omega)] at hlast
    have hlay : (PyData.list (rows.map RowD.data)).canLay0 = true := lay_list fun x hx => by
      obtain ⟨r, hr, rfl⟩ := List.mem_map.mp hx
      obtain ⟨i, hi, rfl⟩ := List.getElem_of_mem hr
      have := (P.R i hi).lay
      rwa [List.getD_eq_getElem?_getD, List.getElem?_eq_getElem hi] at this
    refine ex_cons (sx_if_f (tr_or_f (tr_eq (tr_cmp (ev_rows I okk (by walk_at "mlk")) (ev_list evd_nil) (c_eq okk hlay lay_nil depth_nil)) ?_) (tr_or_f (tr_ev (ev_eq (ev_callK okk (ev_global okk (g_goes_on I) (by rfl)) (kp_190 I) (evl_cons (ev_sub (ev_rows I okk (by walk_at "mlk")) (ev_neg ev_int) (s_list_neg okk (.inl rfl) (by decide) (by simp; omega) (by decide) (x := (rows.getD (rows.length - 1) default).data) ?_)) evl_nil) (goes_on_c I okk (P.R (rows.length - 1) (by omega)).W.lay)) ?_)) tr_or_nil)) ex_nil) ?_
    · rw [eqv_nil]; cases rows with
      | nil => exact absurd hn0 (Nat.lt_irrefl _)
      | cons => rfl
    · have : ((-1 : Int) + ((rows.map RowD.data).length : Nat)).toNat = rows.length - 1 := by rw [List.length_map]; omega
      rw [this]; exact row_at (by omega)
    · exact congrArg (fun b => Slot.d (.bool b)) hlast
    obtain ⟨stop, hs0, hs1⟩ : ∃ stop : Option Nat, (stop = none → ∀ i, i < rows.length → rBad (rows.getD i default) = false) ∧ (∀ j, stop = some j → j < rows.length ∧ rBad (rows.getD j default) = true ∧ ∀ i, i < j → rBad (rows.getD i default) = false) := by
      rcases first_bad (fun i => !rBad (rows.getD i default)) rows.length with h | ⟨j, hj, h1, h2⟩
      · exact ⟨none, fun _ i hi => by simpa using h i hi, fun j h => nomatch h⟩
      · exact ⟨some j, (fun h => nomatch h), fun j' h => by cases h; exact ⟨hj, by simpa using h1, fun i hi => by simpa using h2 i hi⟩⟩
    have hjs : ∀ i, i < rows.length → ∃ js : List Int, jN (rows.getD i default).ps (rows.getD i default).rest (rows.getD i default).ps.cps.size = js.map .int ∧ ∀ j ∈ js, 0 ≤ j ∧ j < ((rows.map RowD.data).length : Int) := fun i hi => by
      rw [P.jp i hi]
      by_cases h : pj = some i
      · refine ⟨[(i : Int) + 1], by rw [if_pos h]; rfl, fun j hj => ?_⟩
        rw [List.mem_singleton.mp hj, List.length_map]
        have := P.pj i h
        omega
      · exact ⟨[], by rw [if_neg h]; rfl, fun j hj => nomatch hj⟩
    refine ex_for (n := (rows.map RowD.data).length) stop (fun _ => oc) (fun _ => [(Str.ofString "code", .code (rows.map RowD.data))]) okk (ite_list okk (ev_rows I okk (by walk_at "mlk"))) (fun i _ => tgt_name ok' (by rfl)) (fun tl i hi hlt => ?_) (fun j hj => ?_) (fun hnone => ?_)
    · have hi' : i < rows.length := by simpa using hi
      have F := P.R i hi'
      have hb : rBad (rows.getD i default) = false := by
        cases hst : stop with
        | none => exact hs0 hst i hi'
        | some j => exact (hs1 j hst).2.2 i (hlt j hst)
      obtain ⟨js, h1, h2⟩ := hjs i hi'
      refine ⟨_, .inl rfl, ?_⟩
      refine ex_callB okk (ev_global okk (g_check_row I) (by rfl)) (kp_238 I) (evl_cons (ev_eq (ev_name (by assumption) (by walk_at "mlk")) (by rw [getD_of (row_at hi')]; rfl)) (evl_cons (ev_callb (ev_builtin okk (n_len I) (by rfl) (by decide) (by rfl)) (evl_cons (ev_rows I okk (by walk_at "mlk")) evl_nil) (k_len_lst okk (.inl rfl) (by simp; omega))) (evl_cons (ev_callb (ev_builtin okk (n_len I) (by rfl) (by decide) (by rfl)) (evl_cons (ev_codes I okk (by walk_at "mlk")) evl_nil) (k_len_lst okk (.inl rfl) (by simp))) evl_nil))) (check_row_c (lev := lev) I okk F.W F.X F.R F.C h1 h2) (fun _ => ex_weak_next ex_nil (by walk_at "mls")) (fun h => by rw [show ccBad _ _ _ _ _ = false from hb] at h; cases h)
    · obtain ⟨hj', hbad, _⟩ := hs1 j hj
      have F := P.R j hj'
      obtain ⟨js, h1, h2⟩ := hjs j hj'
      have hcb : codeBad rows = true := by
        unfold codeBad
        rw [Bool.or_eq_true]
        exact .inl (List.any_eq_true.mpr ⟨j, List.mem_range.mpr hj', hbad⟩)
      rw [hcb]
      refine ⟨by simpa using hj', oc, [], rfl, fun tl q => ?_⟩
      refine ex_exc_drop (pre := []) (ml1 := updm (Str.ofString "row") (.d ((rows.map RowD.data).getD j .none)) [(Str.ofString "code", .code (rows.map RowD.data))]) ok' ?_
      refine ex_callB okk (ev_global okk (g_check_row I) (by rfl)) (kp_238 I) (evl_cons (ev_eq (ev_name (by assumption) (by walk_at "mlk")) (by rw [getD_of (row_at hj')]; rfl)) (evl_cons (ev_callb (ev_builtin okk (n_len I) (by rfl) (by decide) (by rfl)) (evl_cons (ev_rows I okk (by walk_at "mlk")) evl_nil) (k_len_lst okk (.inl rfl) (by simp; omega))) (evl_cons (ev_callb (ev_builtin okk (n_len I) (by rfl) (by decide) (by rfl)) (evl_cons (ev_codes I okk (by walk_at "mlk")) evl_nil) (k_len_lst okk (.inl rfl) (by simp))) evl_nil))) (check_row_c (lev := lev) I okk F.W F.X F.R F.C h1 h2) (fun h => by rw [show ccBad _ _ _ _ _ = true from hbad] at h; cases h) (fun _ => rfl)
    · have hrb : (List.range rows.length).any (fun i => rBad (rows.getD i default)) = false := by
        rw [List.any_eq_false]
        intro i hi
        rw [hs0 hnone i (List.mem_range.mp hi)]; simp
      have hcal := state_at_c (lev := lev) (oc := oc) (ml := [(Str.ofString "code", .code (rows.map RowD.data))]) (c := c.callee fz g L' _) I okk P.n0 P.n P.R P.go P.jp P.pj
      cases hall : allOk rows with
      | false =>
        have hcb : codeBad rows = true := by unfold codeBad; rw [hrb, hall]; rfl
        rw [hall] at hcal
        rw [hcb]
        exact ex_exc_drop (pre := []) ok' (ex_exc (sx_expr_x (ev_callKX okk (ev_global okk (g_state_at I) (by rfl)) (kp_252 I) (evl_cons (ev_rows I okk (by walk_at "mlk")) evl_nil) hcal)))
      | true =>
        have hcb : codeBad rows = false := by unfold codeBad; rw [hrb, hall]; rfl
        rw [hall] at hcal
        rw [hcb]
        refine ex_cons (sx_expr (ev_callK okk (ev_global okk (g_state_at I) (by rfl)) (kp_252 I) (evl_cons (ev_rows I okk (by walk_at "mlk")) evl_nil) hcal)) ?_
        refine ex_cons (sx_for (fun _ => oc) (fun _ => [(Str.ofString "code", .code (rows.map RowD.data))]) okk (ite_list (xs := []) okk (ev_eq (ev_bin (ev_codes I okk (by walk_at "mlk")) (ev_operations I okk (by walk_at "mlk")) (b_add_list okk (.inl rfl) (.inl rfl) (by simp))) (by rfl))) (fun i _ => tgt_name ok' (by rfl)) (fun tl i hi => absurd hi (Nat.not_lt_zero _))) ?_
        exact ex_cons (sx_if_f (tr_eq (tr_cmp (ev_barrier I okk (by walk_at "mlk")) ev_none c_isnot_none) (by rfl)) (ex_weak_next ex_nil sub_nil)) ex_nil

noncomputable def gmA (rows : List RowD) : Nat → Int
  | 0 => 0
  | i + 1 => if gmA rows i < (stA rows i).1 then (stA rows i).1 else gmA rows i

set_option maxHeartbeats 1600000 in
theorem greatest_height_c (I : G.Is) (ok : c.Ok G (lev + 5)) {rows : List RowD} {pj : Option Nat} (P : Prog G rows pj) (hall : allOk rows = true) : Cal G c oc ml (.ref 266) [.code (rows.map RowD.data)] (.d (.int (gmA rows rows.length))) oc := by
  refine cal_def (lev := lev + 4) (names := [Str.ofString "code"]) ok (by rw [I.K]; rfl) (by rw [I.K]; rfl) ?_ (by decide) rfl (by decide) (fun _ _ h => h) ?_
  · intro s vs hl
    match vs, hl with
    | [v], _ => exact BindsTo.of_eq rfl
  · intro fz g L' ok'
    have okk := ok'.toOk
    have hn := P.n
    refine ex_cons (sx_assign ok' ev_int (by rfl)) ?_
    refine ex_weak (ml' := [(Str.ofString "code", .code (rows.map RowD.data)), (Str.ofString "most", .d (.int 0))]) (by walk_at "mls") ?_
    have hcal := state_at_c (lev := lev) (oc := oc) (ml := [(Str.ofString "code", .code (rows.map RowD.data)), (Str.ofString "most", .d (.int 0))]) (c := c.callee fz g L' _) I okk P.n0 P.n P.R P.go P.jp P.pj
    rw [hall, if_pos rfl] at hcal
    refine ex_cons (sx_for (n := ((List.range rows.length).map fun i => stD (stA rows i)).length) (fun _ => oc) (fun i => [(Str.ofString "code", .code (rows.map RowD.data)), (Str.ofString "most", .d (.int (gmA rows i)))]) okk (ite_list okk (ev_callK okk (ev_global okk (g_state_at I) (by rfl)) (kp_252 I) (evl_cons (ev_rows I okk (by walk_at "mlk")) evl_nil) hcal)) (fun i _ => tgt_name ok' (by rfl)) (fun tl i hi => ⟨_, .inl rfl, ?_⟩)) (ex_ret (sx_return (ev_eq (ev_name (by assumption) (by walk_at "mlk")) (by simp))))
    have hi' : i < rows.length := by simpa using hi
    have hg : ((List.range rows.length).map fun i => stD (stA rows i)).getD i .none = .tuple [.int (stA rows i).1, .tuple (pK (stA rows i).2)] := by
      rw [List.getD_eq_getElem?_getD, List.getElem?_map, List.getElem?_range hi']; rfl
    rw [hg, gmA]
    refine ex_cons (sx_if (tr_and_t (tr_eq (tr_cmp (ev_name (by assumption) (by walk_at "mlk")) ev_none c_isnot_none) (by rfl)) (tr_and2' (tr_cmp (ev_sub (ev_name (by assumption) (by walk_at "mlk")) ev_int (s_tup okk (by decide) (by decide) (by rfl))) (ev_name (by assumption) (by walk_at "mlk")) c_gt))) (fun h => ?_) (fun h => ?_)) ex_nil
    · rw [if_pos (of_decide_eq_true h)]
      exact ex_weak_next (ex_cons (sx_assign ok' (ev_sub (ev_name (by assumption) (by walk_at "mlk")) ev_int (s_tup okk (by decide) (by decide) (by rfl))) (by rfl)) ex_nil) (by walk_at "mls")
    · rw [if_neg (of_decide_eq_false h)]
      exact ex_weak_next ex_nil (by walk_at "mls")
end
end Mine
end
section
open PySem PySem.W PyProof.Rows PySem.Calls PySem.Spec
namespace Mine
section
variable {G : Glo} {c : Cx} {oc oc1 oc2 oc3 oc' : List (Addr × Cell)} {ml ml1 ml2 ml' : List (Str × Slot)} {tm : List (Value × Slot)} {h h' : Heap} {m : Str → Option Value} {own fz : Led} {lev : Nat} {out : Out}

theorem St0.urn {u : Addr} {ns : List Int} {t : Int} (S : St0 G c oc ml tm h m own fz) (hm : (u, Cell.urn ns t) ∈ oc) : ∃ v k, h.DictOf (strKind G.prog G.w) u [(Str.ofString "script", v), (Str.ofString "turn", .int t k)] ∧ RV G.H0 fz v (.list (ns.map .int)) := by
  obtain ⟨o, ho, v, k, hd, r⟩ := owns_mem S.O hm
  exact ⟨v, k, Heap.dictOf_iff.mpr ⟨o, (S.N _ (List.mem_append_left _ ho)).1, hd⟩, r⟩
theorem s_urn_turn {e i : Expr} {u : Addr} {ns : List Int} {t : Int} (hm : (u, Cell.urn ns t) ∈ oc)
    (hs : ∀ o tk, subscripted i false o (.str (Str.ofString "turn") tk) = operate [o, .str (Str.ofString "turn") tk] (getItem o (.str (Str.ofString "turn") tk)) := by intros; with_unfolding_all rfl) : Bin G c oc ml (subscriptTail e i) (.urn u) (.d (.str (Str.ofString "turn"))) (.d (.int t)) oc := by
  rintro tm s Q E v1 v2 ⟨m, own, fz, S⟩ k
  obtain ⟨tk, rfl⟩ := rv_str (S.tmp _ (.head _))
  obtain rfl : v1 = .ref u := S.tmp _ (.tail _ (.head _))
  obtain ⟨v, kk, hd, r⟩ := S.urn hm
  exact tail_any hd.mapOf.typeIs slot_dict_getitem.lookup (wpAny_getItem_of (strKind_is G.prog G.w _ tk) hd.mapOf (v := .int t kk) (by rfl) (k _ s.heap _ ⟨m, own, fz, S.put sub2 (RV.int _ _)⟩)) (hs _ _)
theorem s_urn_script {e i : Expr} {u : Addr} {ns : List Int} {t : Int} (hm : (u, Cell.urn ns t) ∈ oc)
    (hs : ∀ o tk, subscripted i false o (.str (Str.ofString "script") tk) = operate [o, .str (Str.ofString "script") tk] (getItem o (.str (Str.ofString "script") tk)) := by intros; with_unfolding_all rfl) : Bin G c oc ml (subscriptTail e i) (.urn u) (.d (.str (Str.ofString "script"))) (.d (.list (ns.map .int))) oc := by
  rintro tm s Q E v1 v2 ⟨m, own, fz, S⟩ k
  obtain ⟨tk, rfl⟩ := rv_str (S.tmp _ (.head _))
  obtain rfl : v1 = .ref u := S.tmp _ (.tail _ (.head _))
  obtain ⟨v, kk, hd, r⟩ := S.urn hm
  exact tail_any hd.mapOf.typeIs slot_dict_getitem.lookup (wpAny_getItem_of (strKind_is G.prog G.w _ tk) hd.mapOf (v := v) (by rfl) (k _ s.heap _ ⟨m, own, fz, S.put sub2 r⟩)) (hs _ _)
theorem sx_urn_set {x : Str} {np p pos pi : Pos} {ki : Nat} {e : Expr} {u : Addr} {pre post : List (Addr × Cell)} {ns : List Int} {t t' : Int} (ok : c.Ok G lev) (hm : (x, .urn u) ∈ ml) (h1 : Ev G c (pre ++ (u, .urn ns t) :: post) ml e (.d (.int t')) (pre ++ (u, .urn ns t) :: post))
    (hd : (x == ("__debug__" : Str)) = false := by decide) (hc : (x == ("__classdict__" : Str)) = false := by decide) (hs : swapsWith e (some (.Subscript (.Name x np) (.Constant (.str (Str.ofString "turn")) ki pi) p)) pos.line c.env = pure false := by rfl) :
    Sx G c (pre ++ (u, .urn ns t) :: post) ml (.Assign [.Subscript (.Name x np) (.Constant (.str (Str.ofString "turn")) ki pi) p] e pos) (.next (pre ++ (u, .urn ns t') :: post) ml) := by
  intro tm s Q E hE S kk
  refine wpAny_Assign_Subscript (h1 tm s _ E S fun v g t1 S1 => ?_) hs
  refine ev_name (pos := np) ok hm hd hc _ _ _ E S1 fun v2 g2 t2 S2 => ?_
  refine wpAny_Constant_str ?_
  obtain ⟨m, own, fz, S2⟩ := S2
  obtain ⟨tk, rfl⟩ := rv_int (S2.tmp _ (.tail _ (.head _)))
  obtain rfl : v2 = .ref u := S2.tmp _ (.head _)
  obtain ⟨o, ho, ⟨v, k, hd, r⟩, kset⟩ := S2.set (fun _ e => nomatch e)
  refine wpAny_setItem_pairs (strKind_is G.prog G.w _ _) (Heap.dictOf_iff.mpr ⟨o, ho, hd⟩) (fun h' hd' hs' => ?_) (by simp [sizeLine_eq])
  obtain ⟨o', ho', hd'⟩ := Heap.dictOf_iff.mp hd'
  obtain ⟨own3, S3⟩ := kset (.urn ns t') h' o' (fun b ob hb e => hs'.extBut b ob hb e) ho' ⟨v, tk, hd', r⟩
  exact kk h' _ ⟨m, own3, fz, S3.tms fun x hx => .tail _ (.tail _ hx)⟩
end
end Mine
end
section
open PySem PySem.W PyProof.Rows PySem.Calls PySem.Spec
set_option maxRecDepth 100000
namespace Mine
section
variable {G : Glo} {c : Cx} {oc oc1 oc2 oc3 oc' pre post : List (Addr × Cell)} {ml ml1 ml2 ml' mlc : List (Str × Slot)} {tm : List (Value × Slot)} {h h' : Heap} {m : Str → Option Value} {own fz : Led} {lev : Nat} {out : Out}

noncomputable def cellV (ns : List Int) (t many : Int) : Int := if t + 1 ≤ ns.length then (ns.getD t.toNat 0).fmod many else (2 * (t + 1) + 1).fmod many
theorem cellV_lo {ns : List Int} {t many : Int} (h : 0 < many) : 0 ≤ cellV ns t many := by
  unfold cellV
  split
  · exact Int.fmod_nonneg_of_pos _ h
  · exact Int.fmod_nonneg_of_pos _ h
theorem cellV_hi {ns : List Int} {t many : Int} (h : 0 < many) : cellV ns t many < many := by
  unfold cellV
  split
  · exact Int.fmod_lt_of_pos _ h
  · exact Int.fmod_lt_of_pos _ h
theorem raw_swap {cl cl' : Cell} {u : Addr} (h : ∀ o, cl ≠ .raw o) : ∀ a o, (a, Cell.raw o) ∈ pre ++ (u, cl) :: post → (a, Cell.raw o) ∈ pre ++ (u, cl') :: post := fun a o hm => by
  rcases List.mem_append.mp hm with hm | hm
  · exact List.mem_append_left _ hm
  · rcases List.mem_cons.mp hm with hm | hm
    · cases hm; exact absurd rfl (h _)
    · exact List.mem_append_right _ (.tail _ hm)
theorem mem_mid {α : Type} {a : α} {pre post : List α} : a ∈ pre ++ a :: post := List.mem_append_right _ (.head _)

set_option maxHeartbeats 800000 in
theorem law_cell_c (I : G.Is) (ok : c.Ok G (lev + 1)) {u : Addr} {ns : List Int} {t many : Int} (h0 : 0 ≤ t) (hb : t ≤ 100000) (hl : ns.length ≤ 100) (hm : 0 < many) : Cal G c (pre ++ (u, .urn ns t) :: post) ml (.ref 280) [.urn u, .d (.int many)] (.d (.int (cellV ns t many))) (pre ++ (u, .urn ns (t + 1)) :: post) := by
  refine cal_def (names := [Str.ofString "urn", Str.ofString "many"]) ok (by rw [I.K]; rfl) (by rw [I.K]; rfl) ?_ (by decide) rfl (by decide) (raw_swap fun _ h => nomatch h) ?_
  · intro s vs hl
    match vs, hl with
    | [v1, v2], _ => exact BindsTo.of_eq rfl
  · intro fz g L' ok'
    have okk := ok'.toOk
    refine ex_cons (sx_urn_set okk (by walk_at "mlk") (ev_bin (ev_sub (ev_name (by assumption) (by walk_at "mlk")) ev_str (s_urn_turn mem_mid)) ev_int b_add)) ?_
    have hmul : IntMulOk 2 (t + 1) := by
      unfold IntMulOk
      have : decide (Builtin.Int.intBits 2 > shortFactorBits) = false := by decide
      rw [this]; simp
    unfold cellV
    by_cases hlt : t + 1 ≤ ns.length
    · rw [if_pos hlt]
      have hti : t.toNat < ns.length := by omega
      refine ex_ret (sx_if_t (tr_eq (tr_cmp (ev_sub (ev_name (by assumption) (by walk_at "mlk")) ev_str (s_urn_turn mem_mid)) (ev_callb (ev_builtin okk (n_len I) (by rfl) (by decide) (by rfl)) (evl_cons (ev_sub (ev_name (by assumption) (by walk_at "mlk")) ev_str (s_urn_script mem_mid)) evl_nil) (k_len_lst okk (.inl rfl) (by simp; omega))) c_le) (decide_eq_true (by rw [List.length_map]; exact hlt))) (ex_ret (sx_return (ev_bin (ev_sub (ev_sub (ev_name (by assumption) (by walk_at "mlk")) ev_str (s_urn_script mem_mid)) (ev_bin (ev_sub (ev_name (by assumption) (by walk_at "mlk")) ev_str (s_urn_turn mem_mid)) ev_int b_sub) (s_list okk (.inl rfl) (by omega) (by omega) (x := .int (ns.getD t.toNat 0)) ?_)) (ev_name (by assumption) (by walk_at "mlk")) (b_mod (by omega))))))
      rw [show (t + 1 - 1 : Int) = t by omega, List.getElem?_map, List.getElem?_eq_getElem hti, List.getD_eq_getElem?_getD, List.getElem?_eq_getElem hti]; rfl
    · rw [if_neg hlt]
      refine ex_cons (sx_if_f (tr_eq (tr_cmp (ev_sub (ev_name (by assumption) (by walk_at "mlk")) ev_str (s_urn_turn mem_mid)) (ev_callb (ev_builtin okk (n_len I) (by rfl) (by decide) (by rfl)) (evl_cons (ev_sub (ev_name (by assumption) (by walk_at "mlk")) ev_str (s_urn_script mem_mid)) evl_nil) (k_len_lst okk (.inl rfl) (by simp; omega))) c_le) (decide_eq_false (by rw [List.length_map]; exact hlt))) ex_nil) ?_
      exact ex_ret (sx_return (ev_bin (ev_bin (ev_bin ev_int (ev_sub (ev_name (by assumption) (by walk_at "mlk")) ev_str (s_urn_turn mem_mid)) (b_mul hmul)) ev_int b_add) (ev_name (by assumption) (by walk_at "mlk")) (b_mod (by omega))))
end
end Mine
end
section
open PySem PySem.W PyProof.Rows PySem.Calls PySem.Spec
set_option maxRecDepth 100000
namespace Mine
section
variable {G : Glo} {c : Cx} {oc oc1 oc2 oc3 oc' pre post : List (Addr × Cell)} {ml ml1 ml2 ml' mlc : List (Str × Slot)} {tm : List (Value × Slot)} {h h' : Heap} {m : Str → Option Value} {own fz : Led} {lev : Nat} {out : Out}

theorem kp_280 (I : G.Is) : keepIn G.K (.ref 280) = true := by rw [I.K]; kernel_rfl
noncomputable def lastLen (r : List PyData) : Int := match r.getLast? with | some (.list zs) => zs.length | _ => 0
noncomputable def bump (k : Int) : Int := if k = 0 then -1 else if k = 1 then 0 else if k = 2 then 1 else 0
noncomputable def wordW (k : Int) : PyData := if k = 0 then .str (Str.ofString "else") else .str (Str.ofString "delay")
noncomputable def abc : List PyData := [.str (Str.ofString "a"), .str (Str.ofString "b"), .str (Str.ofString "c")]
noncomputable def rowStep (ns : List Int) (hasL : Bool) (place : PyData) (cp : Nat) (st : List PyData × Int) : List PyData × Int :=
  if cp = 110 then (if hasL then (st.1 ++ [.int (lastLen st.1 + bump (cellV ns st.2 4))], st.2 + 1) else (st.1 ++ [.int (cellV ns st.2 6 - 1)], st.2 + 1))
  else if cp = 108 then (st.1 ++ [.list (abc.take (cellV ns st.2 4).toNat)], st.2 + 1)
  else if cp = 102 then (st.1 ++ [.int (cellV ns st.2 4 - 1)], st.2 + 1)
  else if cp = 105 then (st.1 ++ [.int (cellV ns st.2 5 - 1)], st.2 + 1)
  else if cp = 119 then (st.1 ++ [wordW (cellV ns st.2 2)], st.2 + 1)
  else if cp = 112 then (st.1 ++ [place], st.2)
  else (st.1 ++ [.str (Str.ofString "x")], st.2)
noncomputable def rowN (ns : List Int) (hasL : Bool) (word place : PyData) (ps : Str) (t : Int) : Nat → List PyData × Int
  | 0 => ([word], t)
  | i + 1 => rowStep ns hasL place (ps.cps.getD i 0) (rowN ns hasL word place ps t i)
theorem rowStep_len {ns : List Int} {hasL : Bool} {place : PyData} {cp : Nat} {st : List PyData × Int} : (rowStep ns hasL place cp st).1.length = st.1.length + 1 := by
  unfold rowStep
  repeat' split
  all_goals simp
theorem rowStep_t {ns : List Int} {hasL : Bool} {place : PyData} {cp : Nat} {st : List PyData × Int} : st.2 ≤ (rowStep ns hasL place cp st).2 ∧ (rowStep ns hasL place cp st).2 ≤ st.2 + 1 := by
  unfold rowStep
  repeat' split
  all_goals (simp only; omega)
theorem rowN_len {ns : List Int} {hasL : Bool} {word place : PyData} {ps : Str} {t : Int} : ∀ i, (rowN ns hasL word place ps t i).1.length = i + 1
  | 0 => rfl
  | i + 1 => by rw [rowN, rowStep_len, rowN_len i]
theorem rowN_t {ns : List Int} {hasL : Bool} {word place : PyData} {ps : Str} {t : Int} : ∀ i : Nat, t ≤ (rowN ns hasL word place ps t i).2 ∧ (rowN ns hasL word place ps t i).2 ≤ t + i
  | 0 => ⟨Int.le_refl _, by simp [rowN]⟩
  | i + 1 => by
    have h1 := rowN_t (ns := ns) (hasL := hasL) (word := word) (place := place) (ps := ps) (t := t) i
    have h2 := rowStep_t (ns := ns) (hasL := hasL) (place := place) (cp := ps.cps.getD i 0) (st := rowN ns hasL word place ps t i)
    rw [rowN]
    constructor <;> omega
theorem lit_l : (Str.ofString "l" : Str) = ⟨#[108]⟩ := by decide
theorem lit_f : (Str.ofString "f" : Str) = ⟨#[102]⟩ := by decide
theorem lit_i : (Str.ofString "i" : Str) = ⟨#[105]⟩ := by decide
theorem lit_p : (Str.ofString "p" : Str) = ⟨#[112]⟩ := by decide
theorem pickL_plain {α : Type} (xs : List α) (lo hi : Option Int) : pickL xs lo hi none = (xs.drop (lo.elim 0 (clipAt xs.length))).take (hi.elim xs.length (clipAt xs.length) - lo.elim 0 (clipAt xs.length)) := by
  have := pick_run xs.toArray (lo.elim 0 (clipAt xs.length)) (hi.elim xs.length (clipAt xs.length) - lo.elim 0 (clipAt xs.length))
  simp only [List.getElem?_toArray] at this
  unfold pickL
  rw [sliceBounds_plain]
  simp only [sliceRange_one]
  exact this
theorem pick_upto {α : Type} {xs : List α} {k : Int} (h0 : 0 ≤ k) : pickL xs none (some k) none = xs.take k.toNat := by
  obtain ⟨b, rfl⟩ : ∃ b : Nat, k = b := ⟨k.toNat, by omega⟩
  rw [pickL_plain]
  simp only [Option.elim, clipAt_nat, List.drop_zero, Nat.sub_zero, Int.toNat_natCast]
  rcases Nat.le_total b xs.length with h | h
  · rw [Nat.min_eq_left h]
  · rw [Nat.min_eq_right h, List.take_of_length_le (Nat.le_refl _), List.take_of_length_le h]
theorem pick_from1 {α : Type} {xs : List α} : pickL xs (some 1) none none = xs.drop 1 := by
  rw [pickL_plain]
  have : clipAt xs.length 1 = min 1 xs.length := clipAt_nat xs.length 1
  simp only [Option.elim, this]
  rcases Nat.le_total 1 xs.length with h | h
  · rw [Nat.min_eq_left h, List.take_of_length_le (by simp)]
  · rw [Nat.min_eq_right h, List.drop_of_length_le (Nat.le_refl _), List.drop_of_length_le h]; simp

theorem ev_cell {x : Str} {xp fp pos : Pos} {e2 : Expr} {u : Addr} {ns : List Int} {t many : Int} {pre post : List (Addr × Cell)} (I : G.Is) (ok : c.Ok G (lev + 1)) (hx : c.env.kindOf (Str.ofString "_law_cell") = some .globalImplicit) (hm : (x, .urn u) ∈ ml) (h2 : Ev G c (pre ++ (u, .urn ns t) :: post) ml e2 (.d (.int many)) (pre ++ (u, .urn ns t) :: post)) (h0 : 0 ≤ t) (hb : t ≤ 100000) (hl : ns.length ≤ 100) (hmn : 0 < many)
    (hd : (x == ("__debug__" : Str)) = false := by decide) (hc : (x == ("__classdict__" : Str)) = false := by decide) (he : starEach [.Name x xp, e2] c.env = (false, eval (.Name x xp) c.env) :: starEach [e2] c.env := by rfl) (he2 : starEach [e2] c.env = [(false, eval e2 c.env)] := by rfl) (hplain : (backTo pos (starEach [e2] c.env)).any (·.1) = false := by rfl) :
    Ev G c (pre ++ (u, .urn ns t) :: post) ml (.Call (.Name (Str.ofString "_law_cell") fp) [.Name x xp, e2] [] pos) (.d (.int (cellV ns t many))) (pre ++ (u, .urn ns (t + 1)) :: post) :=
  ev_callK ok (ev_global ok (g__law_cell I) hx) (kp_280 I) (evl_cons (ev_name ok hm hd hc) (evl_cons h2 evl_nil (by rw [he2]; rfl)) he) (law_cell_c (lev := lev) I ok h0 hb hl hmn) he hplain

theorem cal_mid {f : Value} {sls : List Slot} {sl : Slot} {u : Addr} {cl cl' : Cell} (h : Cal G c ((u, cl) :: (pre ++ post)) ml f sls sl ((u, cl') :: (pre ++ post))) : Cal G c (pre ++ (u, cl) :: post) ml f sls sl (pre ++ (u, cl') :: post) := fun tm s Q E vs hl S k => h tm s Q E vs hl (S.perm List.perm_middle) fun v h' tk' S' => k v h' tk' (S'.perm List.perm_middle.symm)
theorem cell_cases {ns : List Int} {t : Int} (many : Nat) (hm : 0 < many) : ∃ k : Nat, k < many ∧ cellV ns t many = (k : Int) := by
  have h1 := cellV_lo (ns := ns) (t := t) (many := many) (by omega)
  have h2 := cellV_hi (ns := ns) (t := t) (many := many) (by omega)
  exact ⟨(cellV ns t many).toNat, by omega, by omega⟩

theorem word_at (ns : List Int) (t1 : Int) : ([PyData.str (Str.ofString "else"), PyData.str (Str.ofString "delay")] : List PyData)[(cellV ns t1 2).toNat]? = some (wordW (cellV ns t1 2)) := by
  obtain ⟨k, hk, hkv⟩ := cell_cases (ns := ns) (t := t1) 2 (by decide)
  have hkv : cellV ns t1 2 = (k : Int) := hkv
  rw [hkv, Int.toNat_natCast]
  rcases (by omega : k = 0 ∨ k = 1) with rfl | rfl <;> rfl
set_option maxHeartbeats 3200000 in
theorem law_row_c0 (I : G.Is) (ok : c.Ok G (lev + 2)) {u : Addr} {ns : List Int} {t : Int} {word place : PyData} {ps : Str} {hasL : Bool} (h0 : 0 ≤ t) (hb : t ≤ 90000) (hl : ns.length ≤ 100) (hps : ps.cps.size ≤ 10) (ha : ps.cps.all (· < 128) = true)
    (hL : (!(Builtin.Str.occurrences ps (Str.ofString "l") 0 ps.length 1).isEmpty) = hasL)
    (hlast : ∀ i : Nat, ps.cps[i]? = some 110 → hasL = true → ∃ r zs, (rowN ns hasL word place ps t i).1 = r ++ [.list zs] ∧ zs.length ≤ 100) :
    Cal G c ((u, .urn ns t) :: post) ml (.ref 287) [.urn u, .d word, .d (.str ps), .d place] (.d (.tuple (rowN ns hasL word place ps t ps.cps.size).1)) ((u, .urn ns (rowN ns hasL word place ps t ps.cps.size).2) :: post) := by
  refine cal_def (lev := lev + 1) (names := [Str.ofString "urn", Str.ofString "word", Str.ofString "parts", Str.ofString "place"]) ok (by rw [I.K]; rfl) (by rw [I.K]; rfl) ?_ (by decide) rfl (by decide) (raw_swap (pre := []) fun _ h => nomatch h) ?_
  · intro s vs hl
    match vs, hl with
    | [v1, v2, v3, v4], _ => exact BindsTo.of_eq rfl
  · intro fz g L' ok'
    have okk := ok'.toOk
    refine ex_assign_own ok' (by rfl) (evo_list (evd_cons (ev_name (by assumption) (by walk_at "mlk")) evd_nil)) fun a => ?_
    refine ex_weak (ml' := [(Str.ofString "urn", .urn u), (Str.ofString "parts", .d (.str ps)), (Str.ofString "place", .d place), (Str.ofString "row", .own a)]) (by walk_at "mls") ?_
    refine ex_cons (sx_for (fun i => (a, .lst (rowN ns hasL word place ps t i).1) :: (u, .urn ns (rowN ns hasL word place ps t i).2) :: post) (fun _ => [(Str.ofString "urn", .urn u), (Str.ofString "parts", .d (.str ps)), (Str.ofString "place", .d place), (Str.ofString "row", .own a)]) okk (ite_str okk (ev_name (by assumption) (by walk_at "mlk")) ha) (fun i _ => tgt_name ok' (by rfl)) (fun tl i hi => ?_))
      (ex_ret (sx_ret_drop (pre := [(a, .lst (rowN ns hasL word place ps t ps.cps.size).1)]) ok' (sx_return (ev_callt (ev_builtin okk (n_tuple I) (by rfl) (by decide) (by rfl)) (evl_cons (ev_name (by assumption) (by walk_at "mlk")) evl_nil) (k_tuple okk (.inr ⟨a, rfl, .inl (.head _)⟩) (by rw [rowN_len]; omega))))))
    obtain ⟨cp, hcp⟩ := ps_at hi
    have hasc := asc_at ha hcp
    have ht := rowN_t (ns := ns) (hasL := hasL) (word := word) (place := place) (ps := ps) (t := t) i
    have hrl := rowN_len (ns := ns) (hasL := hasL) (word := word) (place := place) (ps := ps) (t := t) i
    have hstep : rowN ns hasL word place ps t (i + 1) = rowStep ns hasL place cp (rowN ns hasL word place ps t i) := by rw [rowN, agetD_of hcp]
    have hls := hlast i
    simp only [List.cons_append]
    rw [hstep, agetD_of hcp]
    generalize hst : rowN ns hasL word place ps t i = st at ht hrl
    rw [hst] at hls
    obtain ⟨r, t1⟩ := st
    simp only at ht hrl ⊢
    refine ⟨_, .inl rfl, ?_⟩
    by_cases h110 : cp = 110
    · subst h110
      cases hasL with
      | true =>
        obtain ⟨r', zs, rfl, hz⟩ := hls hcp rfl
        obtain ⟨k, hk, hkv⟩ := cell_cases (ns := ns) (t := t1) 4 (by decide)
        have hk : k < 4 := hk
        have hkv : cellV ns t1 4 = (k : Int) := hkv
        simp only [rowStep, if_true]
        refine ex_weak_next (ex_cons (sx_if_t (tr_and_t (tr_eq ((tr_eq (tr_cmp (ev_name (by assumption) (by walk_at "mlk")) ev_str (c_eqS (by assumption) (lay_ch (by assumption)) (lay_lit "n"))) (ch_eq lit_n))) (by rfl)) (tr_and_t (tr_eq (tr_cmp ev_str (ev_name (by assumption) (by walk_at "mlk")) c_in_str) hL) tr_and_nil)) (ex_cons (sx_expr (ev_append (pre := []) okk (by walk_at "mlk") (.head _)
          (ev_eq (ev_bin (ev_callb (ev_builtin okk (n_len I) (by rfl) (by decide) (by rfl)) (evl_cons (ev_sub (ev_name (by assumption) (by walk_at "mlk")) (ev_neg ev_int) (s_list_neg okk (.inr ⟨a, rfl, .inl (.head _)⟩) (by decide) (by simp; omega) (by decide) (x := .list zs) ?h1)) evl_nil) (k_len_lst okk (.inl rfl) (by omega)))
            (ev_sub (ev_list (evd_cons (ev_neg ev_int) (evd_cons ev_int (evd_cons ev_int (evd_cons ev_int evd_nil))))) (ev_cell (u := u) (t := t1) (pre := [(a, Cell.lst (r' ++ [PyData.list zs]))]) (post := post ++ tl) I okk (by rfl) (by walk_at "mlk") ev_int (by omega) (by omega) hl (by decide)) (s_list okk (.inl rfl) (by rw [hkv]; omega) (by rw [hkv]; omega) (x := .int (bump (cellV ns t1 4))) ?h2)) b_add) ?h3) (by omega))) ex_nil)) ex_nil) (by walk_at "mls")
        case h1 =>
          rw [show ((-1 : Int) + ((r' ++ [PyData.list zs]).length : Nat)).toNat = r'.length by simp; omega]
          simp
        case h2 =>
          rw [hkv, Int.toNat_natCast]
          rcases (by omega : k = 0 ∨ k = 1 ∨ k = 2 ∨ k = 3) with rfl | rfl | rfl | rfl <;> rfl
        case h3 => simp [lastLen]
      | false =>
        simp only [rowStep, if_true, Bool.false_eq_true, if_false]
        exact ex_weak_next (ex_cons (sx_if_f (tr_and_t (tr_eq ((tr_eq (tr_cmp (ev_name (by assumption) (by walk_at "mlk")) ev_str (c_eqS (by assumption) (lay_ch (by assumption)) (lay_lit "n"))) (ch_eq lit_n))) (by rfl)) (tr_and_f (tr_eq (tr_cmp ev_str (ev_name (by assumption) (by walk_at "mlk")) c_in_str) hL))) (ex_cons (sx_if_t (tr_eq ((tr_eq (tr_cmp (ev_name (by assumption) (by walk_at "mlk")) ev_str (c_eqS (by assumption) (lay_ch (by assumption)) (lay_lit "n"))) (ch_eq lit_n))) (by rfl)) (ex_cons (sx_expr (ev_append (pre := []) okk (by walk_at "mlk") (.head _)
          (ev_bin (ev_cell (u := u) (t := t1) (pre := [(a, Cell.lst r)]) (post := post ++ tl) I okk (by rfl) (by walk_at "mlk") ev_int (by omega) (by omega) hl (by decide)) ev_int b_sub) (by omega))) ex_nil)) ex_nil)) ex_nil) (by walk_at "mls")
    · have e110 : decide (cp = 110) = false := decide_eq_false h110
      by_cases h108 : cp = 108
      · subst h108
        simp only [rowStep, if_neg h110, if_true]
        exact ex_weak_next (ex_cons (sx_if_f (tr_and_f (tr_eq ((tr_eq (tr_cmp (ev_name (by assumption) (by walk_at "mlk")) ev_str (c_eqS (by assumption) (lay_ch (by assumption)) (lay_lit "n"))) (ch_eq lit_n))) (by rfl))) (ex_cons (sx_if_f (tr_eq ((tr_eq (tr_cmp (ev_name (by assumption) (by walk_at "mlk")) ev_str (c_eqS (by assumption) (lay_ch (by assumption)) (lay_lit "n"))) (ch_eq lit_n))) (by rfl)) (ex_cons (sx_if_t (tr_eq ((tr_eq (tr_cmp (ev_name (by assumption) (by walk_at "mlk")) ev_str (c_eqS (by assumption) (lay_ch (by assumption)) (lay_lit "l"))) (ch_eq lit_l))) (by rfl)) (ex_cons (sx_expr (ev_append (pre := []) okk (by walk_at "mlk") (.head _)
          (ev_eq (EvO.ev (evo_slice okk (ev_list (evd_cons ev_str (evd_cons ev_str (evd_cons ev_str evd_nil)))) (ev_slice pte_none (pte_some (ev_cell (u := u) (t := t1) (pre := [(a, Cell.lst r)]) (post := post ++ tl) I okk (by rfl) (by walk_at "mlk") ev_int (by omega) (by omega) hl (by decide))) pte_none) (.inl rfl) (by simp) (by simp))) (by rw [pick_upto (cellV_lo (by decide))]; rfl)) (by omega))) ex_nil)) ex_nil)) ex_nil)) ex_nil) (by walk_at "mls")
      · have h108 := h108
        by_cases h102 : cp = 102
        · subst h102
          simp only [rowStep, if_neg h110, if_neg h108, if_true]
          exact ex_weak_next (ex_cons (sx_if_f (tr_and_f (tr_eq ((tr_eq (tr_cmp (ev_name (by assumption) (by walk_at "mlk")) ev_str (c_eqS (by assumption) (lay_ch (by assumption)) (lay_lit "n"))) (ch_eq lit_n))) (decide_eq_false h110))) (ex_cons (sx_if_f (tr_eq ((tr_eq (tr_cmp (ev_name (by assumption) (by walk_at "mlk")) ev_str (c_eqS (by assumption) (lay_ch (by assumption)) (lay_lit "n"))) (ch_eq lit_n))) (decide_eq_false h110)) (ex_cons (sx_if_f (tr_eq ((tr_eq (tr_cmp (ev_name (by assumption) (by walk_at "mlk")) ev_str (c_eqS (by assumption) (lay_ch (by assumption)) (lay_lit "l"))) (ch_eq lit_l))) (decide_eq_false h108)) (ex_cons (sx_if_t (tr_eq ((tr_eq (tr_cmp (ev_name (by assumption) (by walk_at "mlk")) ev_str (c_eqS (by assumption) (lay_ch (by assumption)) (lay_lit "f"))) (ch_eq lit_f))) (by rfl)) (ex_cons (sx_expr (ev_append (pre := []) okk (by walk_at "mlk") (.head _) (ev_bin (ev_cell (u := u) (t := t1) (pre := [(a, Cell.lst r)]) (post := post ++ tl) I okk (by rfl) (by walk_at "mlk") ev_int (by omega) (by omega) hl (by decide)) ev_int b_sub) (by omega))) ex_nil)) ex_nil)) ex_nil)) ex_nil)) ex_nil) (by walk_at "mls")
        · have h102 := h102
          by_cases h105 : cp = 105
          · subst h105
            simp only [rowStep, if_neg h110, if_neg h108, if_neg h102, if_true]
            exact ex_weak_next (ex_cons (sx_if_f (tr_and_f (tr_eq ((tr_eq (tr_cmp (ev_name (by assumption) (by walk_at "mlk")) ev_str (c_eqS (by assumption) (lay_ch (by assumption)) (lay_lit "n"))) (ch_eq lit_n))) (decide_eq_false h110))) (ex_cons (sx_if_f (tr_eq ((tr_eq (tr_cmp (ev_name (by assumption) (by walk_at "mlk")) ev_str (c_eqS (by assumption) (lay_ch (by assumption)) (lay_lit "n"))) (ch_eq lit_n))) (decide_eq_false h110)) (ex_cons (sx_if_f (tr_eq ((tr_eq (tr_cmp (ev_name (by assumption) (by walk_at "mlk")) ev_str (c_eqS (by assumption) (lay_ch (by assumption)) (lay_lit "l"))) (ch_eq lit_l))) (decide_eq_false h108)) (ex_cons (sx_if_f (tr_eq ((tr_eq (tr_cmp (ev_name (by assumption) (by walk_at "mlk")) ev_str (c_eqS (by assumption) (lay_ch (by assumption)) (lay_lit "f"))) (ch_eq lit_f))) (decide_eq_false h102)) (ex_cons (sx_if_t (tr_eq ((tr_eq (tr_cmp (ev_name (by assumption) (by walk_at "mlk")) ev_str (c_eqS (by assumption) (lay_ch (by assumption)) (lay_lit "i"))) (ch_eq lit_i))) (by rfl)) (ex_cons (sx_expr (ev_append (pre := []) okk (by walk_at "mlk") (.head _) (ev_bin (ev_cell (u := u) (t := t1) (pre := [(a, Cell.lst r)]) (post := post ++ tl) I okk (by rfl) (by walk_at "mlk") ev_int (by omega) (by omega) hl (by decide)) ev_int b_sub) (by omega))) ex_nil)) ex_nil)) ex_nil)) ex_nil)) ex_nil)) ex_nil) (by walk_at "mls")
          · have h105 := h105
            by_cases h119 : cp = 119
            · subst h119
              simp only [rowStep, if_neg h110, if_neg h108, if_neg h102, if_neg h105, if_true]
              exact ex_weak_next (ex_cons (sx_if_f (tr_and_f (tr_eq ((tr_eq (tr_cmp (ev_name (by assumption) (by walk_at "mlk")) ev_str (c_eqS (by assumption) (lay_ch (by assumption)) (lay_lit "n"))) (ch_eq lit_n))) (decide_eq_false h110))) (ex_cons (sx_if_f (tr_eq ((tr_eq (tr_cmp (ev_name (by assumption) (by walk_at "mlk")) ev_str (c_eqS (by assumption) (lay_ch (by assumption)) (lay_lit "n"))) (ch_eq lit_n))) (decide_eq_false h110)) (ex_cons (sx_if_f (tr_eq ((tr_eq (tr_cmp (ev_name (by assumption) (by walk_at "mlk")) ev_str (c_eqS (by assumption) (lay_ch (by assumption)) (lay_lit "l"))) (ch_eq lit_l))) (decide_eq_false h108)) (ex_cons (sx_if_f (tr_eq ((tr_eq (tr_cmp (ev_name (by assumption) (by walk_at "mlk")) ev_str (c_eqS (by assumption) (lay_ch (by assumption)) (lay_lit "f"))) (ch_eq lit_f))) (decide_eq_false h102)) (ex_cons (sx_if_f (tr_eq ((tr_eq (tr_cmp (ev_name (by assumption) (by walk_at "mlk")) ev_str (c_eqS (by assumption) (lay_ch (by assumption)) (lay_lit "i"))) (ch_eq lit_i))) (decide_eq_false h105)) (ex_cons (sx_if_t (tr_eq ((tr_eq (tr_cmp (ev_name (by assumption) (by walk_at "mlk")) ev_str (c_eqS (by assumption) (lay_ch (by assumption)) (lay_lit "w"))) (ch_eq lit_w))) (by rfl)) (ex_cons (sx_expr (ev_append (pre := []) okk (by walk_at "mlk") (.head _) (ev_sub (ev_list (evd_cons ev_str (evd_cons ev_str evd_nil))) (ev_cell (u := u) (t := t1) (pre := [(a, Cell.lst r)]) (post := post ++ tl) I okk (by rfl) (by walk_at "mlk") ev_int (by omega) (by omega) hl (by decide)) (s_list okk (.inl rfl) (cellV_lo (by decide)) (by have := cellV_hi (ns := ns) (t := t1) (many := 2) (by decide); omega) (x := wordW (cellV ns t1 2)) (word_at ns t1))) (by omega))) ex_nil)) ex_nil)) ex_nil)) ex_nil)) ex_nil)) ex_nil)) ex_nil) (by walk_at "mls")
            · have h119 := h119
              by_cases h112 : cp = 112
              · subst h112
                simp only [rowStep, if_neg h110, if_neg h108, if_neg h102, if_neg h105, if_neg h119, if_true]
                exact ex_weak_next (ex_cons (sx_if_f (tr_and_f (tr_eq ((tr_eq (tr_cmp (ev_name (by assumption) (by walk_at "mlk")) ev_str (c_eqS (by assumption) (lay_ch (by assumption)) (lay_lit "n"))) (ch_eq lit_n))) (decide_eq_false h110))) (ex_cons (sx_if_f (tr_eq ((tr_eq (tr_cmp (ev_name (by assumption) (by walk_at "mlk")) ev_str (c_eqS (by assumption) (lay_ch (by assumption)) (lay_lit "n"))) (ch_eq lit_n))) (decide_eq_false h110)) (ex_cons (sx_if_f (tr_eq ((tr_eq (tr_cmp (ev_name (by assumption) (by walk_at "mlk")) ev_str (c_eqS (by assumption) (lay_ch (by assumption)) (lay_lit "l"))) (ch_eq lit_l))) (decide_eq_false h108)) (ex_cons (sx_if_f (tr_eq ((tr_eq (tr_cmp (ev_name (by assumption) (by walk_at "mlk")) ev_str (c_eqS (by assumption) (lay_ch (by assumption)) (lay_lit "f"))) (ch_eq lit_f))) (decide_eq_false h102)) (ex_cons (sx_if_f (tr_eq ((tr_eq (tr_cmp (ev_name (by assumption) (by walk_at "mlk")) ev_str (c_eqS (by assumption) (lay_ch (by assumption)) (lay_lit "i"))) (ch_eq lit_i))) (decide_eq_false h105)) (ex_cons (sx_if_f (tr_eq ((tr_eq (tr_cmp (ev_name (by assumption) (by walk_at "mlk")) ev_str (c_eqS (by assumption) (lay_ch (by assumption)) (lay_lit "w"))) (ch_eq lit_w))) (decide_eq_false h119)) (ex_cons (sx_expr (ev_append (pre := []) okk (by walk_at "mlk") (.head _) (ev_if_t (tr_eq ((tr_eq (tr_cmp (ev_name (by assumption) (by walk_at "mlk")) ev_str (c_eqS (by assumption) (lay_ch (by assumption)) (lay_lit "p"))) (ch_eq lit_p))) (by rfl)) (ev_name (by assumption) (by walk_at "mlk"))) (by omega))) ex_nil)) ex_nil)) ex_nil)) ex_nil)) ex_nil)) ex_nil)) ex_nil) (by walk_at "mls")
              · simp only [rowStep, if_neg h110, if_neg h108, if_neg h102, if_neg h105, if_neg h119, if_neg h112]
                exact ex_weak_next (ex_cons (sx_if_f (tr_and_f (tr_eq ((tr_eq (tr_cmp (ev_name (by assumption) (by walk_at "mlk")) ev_str (c_eqS (by assumption) (lay_ch (by assumption)) (lay_lit "n"))) (ch_eq lit_n))) (decide_eq_false h110))) (ex_cons (sx_if_f (tr_eq ((tr_eq (tr_cmp (ev_name (by assumption) (by walk_at "mlk")) ev_str (c_eqS (by assumption) (lay_ch (by assumption)) (lay_lit "n"))) (ch_eq lit_n))) (decide_eq_false h110)) (ex_cons (sx_if_f (tr_eq ((tr_eq (tr_cmp (ev_name (by assumption) (by walk_at "mlk")) ev_str (c_eqS (by assumption) (lay_ch (by assumption)) (lay_lit "l"))) (ch_eq lit_l))) (decide_eq_false h108)) (ex_cons (sx_if_f (tr_eq ((tr_eq (tr_cmp (ev_name (by assumption) (by walk_at "mlk")) ev_str (c_eqS (by assumption) (lay_ch (by assumption)) (lay_lit "f"))) (ch_eq lit_f))) (decide_eq_false h102)) (ex_cons (sx_if_f (tr_eq ((tr_eq (tr_cmp (ev_name (by assumption) (by walk_at "mlk")) ev_str (c_eqS (by assumption) (lay_ch (by assumption)) (lay_lit "i"))) (ch_eq lit_i))) (decide_eq_false h105)) (ex_cons (sx_if_f (tr_eq ((tr_eq (tr_cmp (ev_name (by assumption) (by walk_at "mlk")) ev_str (c_eqS (by assumption) (lay_ch (by assumption)) (lay_lit "w"))) (ch_eq lit_w))) (decide_eq_false h119)) (ex_cons (sx_expr (ev_append (pre := []) okk (by walk_at "mlk") (.head _) (ev_if_f (tr_eq ((tr_eq (tr_cmp (ev_name (by assumption) (by walk_at "mlk")) ev_str (c_eqS (by assumption) (lay_ch (by assumption)) (lay_lit "p"))) (ch_eq lit_p))) (decide_eq_false h112)) ev_str) (by omega))) ex_nil)) ex_nil)) ex_nil)) ex_nil)) ex_nil)) ex_nil)) ex_nil) (by walk_at "mls")
theorem law_row_c (I : G.Is) (ok : c.Ok G (lev + 2)) {u : Addr} {ns : List Int} {t : Int} {word place : PyData} {ps : Str} {hasL : Bool} (h0 : 0 ≤ t) (hb : t ≤ 90000) (hl : ns.length ≤ 100) (hps : ps.cps.size ≤ 10) (ha : ps.cps.all (· < 128) = true)
    (hL : (!(Builtin.Str.occurrences ps (Str.ofString "l") 0 ps.length 1).isEmpty) = hasL)
    (hlast : ∀ i : Nat, ps.cps[i]? = some 110 → hasL = true → ∃ r zs, (rowN ns hasL word place ps t i).1 = r ++ [.list zs] ∧ zs.length ≤ 100) :
    Cal G c (pre ++ (u, .urn ns t) :: post) ml (.ref 287) [.urn u, .d word, .d (.str ps), .d place] (.d (.tuple (rowN ns hasL word place ps t ps.cps.size).1)) (pre ++ (u, .urn ns (rowN ns hasL word place ps t ps.cps.size).2) :: post) :=
  cal_mid (law_row_c0 I ok h0 hb hl hps ha hL hlast)
end
end Mine
end
section
open PySem PySem.W PyProof.Rows PySem.Calls PySem.Spec
set_option maxRecDepth 100000
namespace Mine
section
variable {G : Glo} {c : Cx} {oc oc1 oc2 oc3 oc' pre post : List (Addr × Cell)} {ml ml1 ml2 ml' mlc : List (Str × Slot)} {tm : List (Value × Slot)} {h h' : Heap} {m : Str → Option Value} {own fz : Led} {lev : Nat} {out : Out}

noncomputable def isC (k : Nat) (ps : Str) (i : Nat) : Bool := decide (ps.cps.getD i 0 = k)
noncomputable def sieve (k : Nat) (ps : Str) (rest : List PyData) : List PyData := ((List.range ps.cps.size).filter (isC k ps)).map fun i => rest.getD i .none
noncomputable def itemLen : PyData → Int
  | .list zs => zs.length
  | _ => 0
noncomputable def itemInt : PyData → Int
  | .int k => k
  | _ => 0
noncomputable def tkBad (ps : Str) (rest : List PyData) (n0 : Int) (i : Nat) : Bool :=
  (isC 108 ps i && !(itemLen (rest.getD i .none) == n0)) || (isC 105 ps i && !(decide (0 ≤ itemInt (rest.getD i .none)) && decide (itemInt (rest.getD i .none) < n0)))
noncomputable def notFlag (x : Int) : Bool := !([PyData.int 0, .int 1].any fun y => PyData.eqv y (.int x))
noncomputable def isIx (wd : Str) : Bool := (pSs ["index", "placeindex"]).any fun y => PyData.eqv y (.str wd)
noncomputable def delayed (wd : Str) (rest : List PyData) : Bool := (.str wd :: rest : List PyData).any fun y => PyData.eqv y (.str (Str.ofString "delay"))
noncomputable def takenBad (wd : Str) (ps : Str) (rest : List PyData) (nums flags : List Int) : Bool :=
  ((List.range nums.length).any (fun i => decide (nums.getD i 0 < 0)) || (List.range flags.length).any (fun i => notFlag (flags.getD i 0))) ||
  (List.range ps.cps.size).any (tkBad ps rest (nums.getD 0 0)) ||
  ((isIx wd && PyData.eqv (.list (nums.map .int)) (.list [.int 0])) || (wd == Str.ofString "op" && !([PyData.int 1, .int 2].any fun y => PyData.eqv y (.int (nums.getD 0 0)))))
noncomputable def takenV (wd : Str) (ps : Str) (rest : List PyData) (nums flags : List Int) (taken : Int) : Option Int :=
  if takenBad wd ps rest nums flags then none else some (taken + nums.sum + flags.sum + (if delayed wd rest then 1 else 0))
noncomputable def optD : Option Int → PyData
  | none => .none
  | some k => .int k

structure Tk (wd : Str) (ps : Str) (rest : List PyData) (nums flags : List Int) : Prop where
  lay : (PyData.tuple (.str wd :: rest)).canLay0 = true
  len : rest.length = ps.cps.size
  sz : ps.cps.size ≤ 10
  asc : ps.cps.all (· < 128) = true
  n : sieve 110 ps rest = nums.map .int
  f : sieve 102 ps rest = flags.map .int
  nl : nums.length ≤ 10
  fl : flags.length ≤ 10
  l : ∀ i : Nat, ps.cps[i]? = some 108 → ∃ zs : List PyData, rest[i]? = some (.list zs) ∧ zs.length ≤ 100 ∧ nums ≠ []
  i : ∀ i : Nat, ps.cps[i]? = some 105 → ∃ k : Int, rest[i]? = some (.int k) ∧ nums ≠ []
  op : (wd == Str.ofString "op") = true → nums ≠ []

theorem lay_wd {wd : Str} {rest : List PyData} (h : (PyData.tuple (.str wd :: rest)).canLay0 = true) : (PyData.str wd).canLay0 = true ∧ PyData.canLayAll0 (.str wd :: rest) = true := by
  simp only [PyData.canLay0, PyData.canLayAll0, Bool.and_eq_true] at h ⊢
  exact ⟨h.1, h⟩
theorem depth_int {k : Int} {n : Nat} : min n (PyData.int k).depth ≤ 1000 := by
  have : (PyData.int k).depth = 0 := by simp [PyData.depth]
  rw [this]; omega
theorem lays_ints (l : List Int) : PyData.canLayAll0 (l.map .int) = true := by
  have := lay_ints (xs := l.map .int) (fun x hx => by obtain ⟨k, _, rfl⟩ := List.mem_map.mp hx; exact ⟨k, rfl⟩)
  simpa [PyData.canLay0] using this
theorem sum_eq {x y : Option Int} : True := trivial

theorem ex_ret_drop {ss : List Stmt} {sl : Slot} {pre : List (Addr × Cell)} (ok : c.FOk G lev) (h1 : Ex G c oc ml ss (.ret sl (pre ++ oc1))) : Ex G c oc ml ss (.ret sl oc1) := fun tm s Q E hE S k => h1 tm s Q E hE S fun v g t S1 => by
  obtain ⟨m, own, fz, S1⟩ := S1
  obtain ⟨own2, S2⟩ := S1.drop ok.nofml
  exact k v g t ⟨m, own2, fz, S2⟩
theorem ex_if_ret {t : Expr} {body rest : List Stmt} {pos : Pos} {b : Bool} {sl : Slot} (h1 : Tr G c oc ml t b oc) (h2 : b = true → Ex G c oc ml body (.ret sl oc1)) (ho : b = true → out = .ret sl oc1) (h3 : b = false → Ex G c oc ml rest out) : Ex G c oc ml (.If t body [] pos :: rest) out := by
  cases b with
  | true => rw [ho rfl]; exact ex_ret (sx_if_t h1 (h2 rfl))
  | false => exact ex_cons (sx_if_f h1 ex_nil) (h3 rfl)

theorem item_l {ps : Str} {rest : List PyData} {zs : List PyData} {i : Nat} (h : rest[i]? = some (.list zs)) : itemLen (rest.getD i .none) = zs.length := by rw [getD_of h]; rfl
theorem item_i {ps : Str} {rest : List PyData} {k : Int} {i : Nat} (h : rest[i]? = some (.int k)) : itemInt (rest.getD i .none) = k := by rw [getD_of h]; rfl
set_option maxHeartbeats 3200000 in
theorem law_taken_c (I : G.Is) (ok : c.Ok G (lev + 1)) {wd : Str} {ps : Str} {rest : List PyData} {nums flags : List Int} {taken : Int} (T : Tk wd ps rest nums flags) : Cal G c oc ml (.ref 292) [.d (.tuple (.str wd :: rest)), .d (.str ps), .d (.int taken)] (.d (optD (takenV wd ps rest nums flags taken))) oc := by
  refine cal_defC (names := [Str.ofString "row", Str.ofString "parts", Str.ofString "taken"]) ok (by rw [I.K]; rfl) (by rw [I.K]; rfl) ?_ (by decide) rfl ?_ (by decide) (fun _ _ h => h) ?_
  · intro s vs hl
    match vs, hl with
    | [v1, v2, v3], _ => exact BindsTo.of_eq rfl
  · intro x hx
    rcases List.mem_cons.mp hx with rfl | hx
    · exact .inr ⟨rfl, fun _ => rfl⟩
    · rcases List.mem_cons.mp hx with rfl | hx
      · exact .inr ⟨rfl, fun _ => rfl⟩
      · rw [List.mem_singleton.mp hx]; exact .inl rfl
  · intro fz g L' cells cm ok' Y
    have okk := ok'.toOk
    have hlen := T.sz
    have hnl := T.nl
    have hfl := T.fl
    obtain ⟨hwl, hal⟩ := lay_wd T.lay
    obtain ⟨o1, o2, rfl, d1, d2⟩ := CellsAre.two Y
    have lays : ∀ (ns : List Int) (keep : Nat → Bool) (n : Nat), (PyData.list (((List.range n).filter keep).map fun i => PyData.int (ns.getD i 0))).canLay0 = true := fun ns keep n => lay_ints (fun x hx => by
      obtain ⟨i, _, rfl⟩ := List.mem_map.mp hx
      exact ⟨_, rfl⟩)
    refine ex_cons (sx_assign_comp (mlc := [(Str.ofString "row", .d (.tuple (.str wd :: rest))), (Str.ofString "parts", .d (.str ps))]) (keep := isC 110 ps) (val := fun i => rest.getD i .none) ok' (by rfl)
      (ite_range (n := ps.cps.size) okk (ev_builtin okk (n_range I) (by rfl) (by decide) (by rfl)) (ev_callb (ev_builtin okk (n_len I) (by rfl) (by decide) (by rfl)) (evl_cons (ev_name (by assumption) (by walk_at "mlk")) evl_nil) (k_len_str (by show ps.cps.size ≤ 10000; omega))) (by omega))
      (by rfl) (seen_cons (by walk_at "mlk") (by rfl) (fun C => .inl (by rfl)) (by rfl) (seen_cons (by walk_at "mlk") (by rfl) (fun C => .inl (by rfl)) (by rfl) seen_nil)) (by omega) (fun C tl i hi okc => ?_)) ?_
    · obtain ⟨cp, hcp⟩ := ps_at hi
      have hasc := asc_at T.asc hcp
      have hlt : i < rest.length := by rw [T.len]; exact hi
      have hx : rest[i]? = some (rest.getD i .none) := by rw [List.getElem?_eq_getElem hlt, List.getD_eq_getElem?_getD, List.getElem?_eq_getElem hlt]; rfl
      exact ⟨.inr ⟨_, rfl, tr_eq ((tr_eq (tr_cmp (ev_sub (ev_name (by assumption) (by walk_at "mlk")) (ev_name (by assumption) (by walk_at "mlk")) (s_strN (by assumption) (by omega))) ev_str (c_eqS (by assumption) (lay_ch (by assumption)) (lay_lit "n"))) (ch_eq lit_n))) (by rw [isC, agetD_of hcp])⟩, fun _ => ev_sub (ev_name (by assumption) (by walk_at "mlk")) (ev_bin (ev_name (by assumption) (by walk_at "mlk")) ev_int b_add) (s_tupN1 okc (by rw [List.getElem?_cons_succ]; exact hx) (by omega))⟩
    have hn : ((List.range ps.cps.size).filter (isC 110 ps)).map (fun i => rest.getD i .none) = nums.map .int := T.n
    rw [hn]
    refine ex_cons (sx_assign_comp (mlc := [(Str.ofString "row", .d (.tuple (.str wd :: rest))), (Str.ofString "parts", .d (.str ps))]) (keep := isC 102 ps) (val := fun i => rest.getD i .none) ok' (by rfl)
      (ite_range (n := ps.cps.size) okk (ev_builtin okk (n_range I) (by rfl) (by decide) (by rfl)) (ev_callb (ev_builtin okk (n_len I) (by rfl) (by decide) (by rfl)) (evl_cons (ev_name (by assumption) (by walk_at "mlk")) evl_nil) (k_len_str (by show ps.cps.size ≤ 10000; omega))) (by omega))
      (by rfl) (seen_cons (by walk_at "mlk") (by rfl) (fun C => .inl (by rfl)) (by rfl) (seen_cons (by walk_at "mlk") (by rfl) (fun C => .inl (by rfl)) (by rfl) seen_nil)) (by omega) (fun C tl i hi okc => ?_)) ?_
    · obtain ⟨cp, hcp⟩ := ps_at hi
      have hasc := asc_at T.asc hcp
      have hlt : i < rest.length := by rw [T.len]; exact hi
      have hx : rest[i]? = some (rest.getD i .none) := by rw [List.getElem?_eq_getElem hlt, List.getD_eq_getElem?_getD, List.getElem?_eq_getElem hlt]; rfl
      exact ⟨.inr ⟨_, rfl, tr_eq ((tr_eq (tr_cmp (ev_sub (ev_name (by assumption) (by walk_at "mlk")) (ev_name (by assumption) (by walk_at "mlk")) (s_strN (by assumption) (by omega))) ev_str (c_eqS (by assumption) (lay_ch (by assumption)) (lay_lit "f"))) (ch_eq lit_f))) (by rw [isC, agetD_of hcp])⟩, fun _ => ev_sub (ev_name (by assumption) (by walk_at "mlk")) (ev_bin (ev_name (by assumption) (by walk_at "mlk")) ev_int b_add) (s_tupN1 okc (by rw [List.getElem?_cons_succ]; exact hx) (by omega))⟩
    have hf : ((List.range ps.cps.size).filter (isC 102 ps)).map (fun i => rest.getD i .none) = flags.map .int := T.f
    rw [hf]
    refine ex_weak (ml' := [(Str.ofString "row", .d (.tuple (.str wd :: rest))), (Str.ofString "parts", .d (.str ps)), (Str.ofString "taken", .d (.int taken)), (Str.ofString "numbers", .d (.list (nums.map .int))), (Str.ofString "flags", .d (.list (flags.map .int)))]) (by walk_at "mls") ?_
    generalize hb1 : ((List.range nums.length).any (fun i => decide (nums.getD i 0 < 0)) || (List.range flags.length).any (fun i => notFlag (flags.getD i 0))) = b1
    generalize hb2 : (List.range ps.cps.size).any (tkBad ps rest (nums.getD 0 0)) = b2
    generalize hb3 : ((isIx wd && PyData.eqv (.list (nums.map .int)) (.list [.int 0])) || (wd == Str.ofString "op" && !([PyData.int 1, .int 2].any fun y => PyData.eqv y (.int (nums.getD 0 0))))) = b3
    have hres : takenV wd ps rest nums flags taken = if b1 || b2 || b3 then none else some (taken + nums.sum + flags.sum + (if delayed wd rest then 1 else 0)) := by rw [takenV, takenBad, hb1, hb2, hb3]
    rw [hres]
    refine ex_ret_drop (pre := [(L' + 1 + 1, .raw o1), (L' + 1, .raw o2)]) ok' ?_
    refine ex_if_ret (b := b1) (tr_eq (tr_or2
        (tr_eq (tr_cmp (ev_listcomp (mlc := []) (keep := fun i => decide (nums.getD i 0 < 0)) (val := fun i => .int (nums.getD i 0)) ok' (ite_list okk (ev_name (by assumption) (by walk_at "mlk"))) (by rfl) seen_nil (by simp; omega) (fun C tl i hi okc => ⟨.inr ⟨_, rfl, tr_cmp (ev_eq (ev_name (by assumption) (by walk_at "mlk")) (by rw [map_getD (by simpa using hi)])) ev_int c_lt⟩, fun _ => ev_eq (ev_name (by assumption) (by walk_at "mlk")) (by rw [map_getD (by simpa using hi)])⟩)) (ev_list evd_nil) (c_ne okk (lays _ _ _) lay_nil depth_nil)) (by rw [sieve_any, List.length_map]))
        fun _ => tr_eq (tr_cmp (ev_listcomp (mlc := []) (keep := fun i => notFlag (flags.getD i 0)) (val := fun i => .int (flags.getD i 0)) ok' (ite_list okk (ev_name (by assumption) (by walk_at "mlk"))) (by rfl) seen_nil (by simp; omega) (fun C tl i hi okc => ⟨.inr ⟨_, rfl, tr_cmp (ev_eq (ev_name (by assumption) (by walk_at "mlk")) (by rw [map_getD (by simpa using hi)])) (ev_tuple (evd_cons ev_int (evd_cons ev_int evd_nil))) (c_notin_tup okc (by simp [PyData.canLay0]) (lays_ints [0, 1]) depth_int)⟩, fun _ => ev_eq (ev_name (by assumption) (by walk_at "mlk")) (by rw [map_getD (by simpa using hi)])⟩)) (ev_list evd_nil) (c_ne okk (lays _ _ _) lay_nil depth_nil)) (by rw [sieve_any, List.length_map])) hb1)
      (fun _ => ex_ret (sx_return ev_none)) (fun h => by rw [h]; rfl) (fun h1 => ?_)
    subst h1
    obtain ⟨stop, hs0, hs1⟩ : ∃ stop : Option Nat, (stop = none → b2 = false) ∧ (∀ j, stop = some j → b2 = true ∧ j < ps.cps.size ∧ tkBad ps rest (nums.getD 0 0) j = true ∧ ∀ i, i < j → tkBad ps rest (nums.getD 0 0) i = false) ∧ (stop = none → ∀ i, i < ps.cps.size → tkBad ps rest (nums.getD 0 0) i = false) := by
      rcases first_bad (fun i => !tkBad ps rest (nums.getD 0 0) i) ps.cps.size with h | ⟨j, hj, h1, h2⟩
      · have : ∀ i, i < ps.cps.size → tkBad ps rest (nums.getD 0 0) i = false := fun i hi => by simpa using h i hi
        refine ⟨none, fun _ => ?_, (fun j h => nomatch h), fun _ => this⟩
        rw [← hb2, List.any_eq_false]
        intro i hi
        rw [this i (List.mem_range.mp hi)]; simp
      · refine ⟨some j, (fun h => nomatch h), fun j' h => ?_, fun h => nomatch h⟩
        cases h
        refine ⟨?_, hj, by simpa using h1, fun i hi => by simpa using h2 i hi⟩
        rw [← hb2]
        exact List.any_eq_true.mpr ⟨j, List.mem_range.mpr hj, by simpa using h1⟩
    refine ex_forR (n := ps.cps.size) stop (fun _ => (L' + 1 + 1, .raw o1) :: (L' + 1, .raw o2) :: oc) (fun _ => [(Str.ofString "row", .d (.tuple (.str wd :: rest))), (Str.ofString "parts", .d (.str ps)), (Str.ofString "taken", .d (.int taken)), (Str.ofString "numbers", .d (.list (nums.map .int))), (Str.ofString "flags", .d (.list (flags.map .int)))]) okk
      (ite_range (n := ps.cps.size) okk (ev_builtin okk (n_range I) (by rfl) (by decide) (by rfl)) (ev_callb (ev_builtin okk (n_len I) (by rfl) (by decide) (by rfl)) (evl_cons (ev_name (by assumption) (by walk_at "mlk")) evl_nil) (k_len_str (by show ps.cps.size ≤ 10000; omega))) (by omega)) (fun i _ => tgt_name ok' (by rfl)) (fun tl i hi hlt => ?hb) (fun i hj => ?hs) (fun hnone => ?hr)
    case hb =>
      have htk : tkBad ps rest (nums.getD 0 0) i = false := by
        cases hst : stop with
        | none => exact hs1.2 hst i hi
        | some j => exact (hs1.1 j hst).2.2.2 i (hlt j hst)
      obtain ⟨cp, hcp⟩ := ps_at hi
      have hasc := asc_at T.asc hcp
      have hTl := T.l i
      have hTi := T.i i
      refine ⟨_, .inl rfl, ?_⟩
      refine ex_weak_next (ex_cons (sx_if_f (tr_eq (tr_or2
        (tr_and2 (b2 := !(itemLen (rest.getD i .none) == nums.getD 0 0)) ((tr_eq (tr_cmp (ev_sub (ev_name (by assumption) (by walk_at "mlk")) (ev_name (by assumption) (by walk_at "mlk")) (s_strN (by assumption) (by omega))) ev_str (c_eqS (by assumption) (lay_ch (by assumption)) (lay_lit "l"))) (ch_eq lit_l))) fun h108 => ?t1)
        (fun _ => tr_and2 (b2 := !(decide (0 ≤ itemInt (rest.getD i .none)) && decide (itemInt (rest.getD i .none) < nums.getD 0 0))) ((tr_eq (tr_cmp (ev_sub (ev_name (by assumption) (by walk_at "mlk")) (ev_name (by assumption) (by walk_at "mlk")) (s_strN (by assumption) (by omega))) ev_str (c_eqS (by assumption) (lay_ch (by assumption)) (lay_lit "i"))) (ch_eq lit_i))) fun h105 => ?t2)) ?t3) ex_nil) ex_nil) (by walk_at "mls")
      case t1 =>
        obtain rfl := of_decide_eq_true h108
        obtain ⟨zs, hz, hzl, hne⟩ := hTl hcp
        rw [item_l (ps := ps) hz]
        exact tr_cmp (ev_callb (ev_builtin okk (n_len I) (by rfl) (by decide) (by rfl)) (evl_cons (ev_sub (ev_name (by assumption) (by walk_at "mlk")) (ev_bin (ev_name (by assumption) (by walk_at "mlk")) ev_int b_add) (s_tupN1 okk (by rw [List.getElem?_cons_succ]; exact hz) (by omega))) evl_nil) (k_len_lst okk (.inl rfl) (by omega))) (ev_sub (ev_name (by assumption) (by walk_at "mlk")) ev_int (s_list okk (.inl rfl) (by decide) (by decide) (head_int hne))) (c_neI okk)
      case t2 =>
        obtain rfl := of_decide_eq_true h105
        obtain ⟨k, hk, hne⟩ := hTi hcp
        rw [item_i (ps := ps) hk]
        exact tr_not (tr_chain ev_int (ev_sub (ev_name (by assumption) (by walk_at "mlk")) (ev_bin (ev_name (by assumption) (by walk_at "mlk")) ev_int b_add) (s_tupN1 okk (by rw [List.getElem?_cons_succ]; exact hk) (by omega))) c_le (ev_sub (ev_name (by assumption) (by walk_at "mlk")) ev_int (s_list okk (.inl rfl) (by decide) (by decide) (head_int hne))) c_lt)
      case t3 =>
        rw [tkBad, isC, isC, agetD_of hcp] at htk
        exact htk
    case hs =>
      obtain ⟨hb2t, hi, htk, _⟩ := hs1.1 i hj
      obtain ⟨cp, hcp⟩ := ps_at hi
      have hasc := asc_at T.asc hcp
      have hTl := T.l i
      have hTi := T.i i
      subst hb2t
      refine ⟨hi, .d .none, (L' + 1 + 1, .raw o1) :: (L' + 1, .raw o2) :: oc, by rfl, fun tl q => ?_⟩
      refine ex_ret (sx_if_t (tr_eq (tr_or2
        (tr_and2 (b2 := !(itemLen (rest.getD i .none) == nums.getD 0 0)) ((tr_eq (tr_cmp (ev_sub (ev_name (by assumption) (by walk_at "mlk")) (ev_name (by assumption) (by walk_at "mlk")) (s_strN (by assumption) (by omega))) ev_str (c_eqS (by assumption) (lay_ch (by assumption)) (lay_lit "l"))) (ch_eq lit_l))) fun h108 => ?t1)
        (fun _ => tr_and2 (b2 := !(decide (0 ≤ itemInt (rest.getD i .none)) && decide (itemInt (rest.getD i .none) < nums.getD 0 0))) ((tr_eq (tr_cmp (ev_sub (ev_name (by assumption) (by walk_at "mlk")) (ev_name (by assumption) (by walk_at "mlk")) (s_strN (by assumption) (by omega))) ev_str (c_eqS (by assumption) (lay_ch (by assumption)) (lay_lit "i"))) (ch_eq lit_i))) fun h105 => ?t2)) ?t3) (ex_ret (sx_return ev_none)))
      case t1 =>
        obtain rfl := of_decide_eq_true h108
        obtain ⟨zs, hz, hzl, hne⟩ := hTl hcp
        rw [item_l (ps := ps) hz]
        exact tr_cmp (ev_callb (ev_builtin okk (n_len I) (by rfl) (by decide) (by rfl)) (evl_cons (ev_sub (ev_name (by assumption) (by walk_at "mlk")) (ev_bin (ev_name (by assumption) (by walk_at "mlk")) ev_int b_add) (s_tupN1 okk (by rw [List.getElem?_cons_succ]; exact hz) (by omega))) evl_nil) (k_len_lst okk (.inl rfl) (by omega))) (ev_sub (ev_name (by assumption) (by walk_at "mlk")) ev_int (s_list okk (.inl rfl) (by decide) (by decide) (head_int hne))) (c_neI okk)
      case t2 =>
        obtain rfl := of_decide_eq_true h105
        obtain ⟨k, hk, hne⟩ := hTi hcp
        rw [item_i (ps := ps) hk]
        exact tr_not (tr_chain ev_int (ev_sub (ev_name (by assumption) (by walk_at "mlk")) (ev_bin (ev_name (by assumption) (by walk_at "mlk")) ev_int b_add) (s_tupN1 okk (by rw [List.getElem?_cons_succ]; exact hk) (by omega))) c_le (ev_sub (ev_name (by assumption) (by walk_at "mlk")) ev_int (s_list okk (.inl rfl) (by decide) (by decide) (head_int hne))) c_lt)
      case t3 =>
        rw [tkBad, isC, isC, agetD_of hcp] at htk
        exact htk
    case hr =>
      obtain rfl := hs0 hnone
      have hop := T.op
      refine ex_if_ret (b := b3) (tr_eq (tr_or2 (tr_and2 (tr_cmp (ev_sub (ev_name (by assumption) (by walk_at "mlk")) ev_int (s_tup (by assumption) (by decide) (by decide) (by rfl))) (ev_tuple (evd_cons ev_str (evd_cons ev_str evd_nil))) (c_in_tup okk hwl (lays_of ["index", "placeindex"]) depth_str)) fun _ => tr_cmp (ev_name (by assumption) (by walk_at "mlk")) (ev_list (evd_cons ev_int evd_nil)) (c_eq okk (by simpa [PyData.canLay0] using lays_ints nums) (by simpa [PyData.canLay0] using lays_ints [0]) (by
            have : (PyData.list [.int 0]).depth = 1 := by simp [PyData.depth, PyData.depthAll]
            rw [this]; omega)))
          fun _ => tr_and2 (tr_cmp (ev_sub (ev_name (by assumption) (by walk_at "mlk")) ev_int (s_tup (by assumption) (by decide) (by decide) (by rfl))) ev_str (c_eqS okk hwl (lay_lit "op"))) fun h => tr_cmp (ev_sub (ev_name (by assumption) (by walk_at "mlk")) ev_int (s_list okk (.inl rfl) (by decide) (by decide) (head_int (hop h)))) (ev_tuple (evd_cons ev_int (evd_cons ev_int evd_nil))) (c_notin_tup okk (by simp [PyData.canLay0]) (lays_ints [1, 2]) depth_int)) hb3)
        (fun _ => ex_ret (sx_return ev_none)) (fun h => by rw [h]; rfl) (fun h3 => ?_)
      subst h3
      refine ex_ret (sx_return (ev_eq (sl := .d (.int (taken + nums.sum + flags.sum + (if delayed wd rest then 1 else 0)))) (ev_bin (ev_bin (ev_bin (ev_name (by assumption) (by walk_at "mlk")) (ev_callb (ev_builtin okk (n_sum I) (by rfl) (by decide) (by rfl)) (evl_cons (ev_name (by assumption) (by walk_at "mlk")) evl_nil) (k_sum okk (.inl rfl))) b_add) (ev_callb (ev_builtin okk (n_sum I) (by rfl) (by decide) (by rfl)) (evl_cons (ev_name (by assumption) (by walk_at "mlk")) evl_nil) (k_sum okk (.inl rfl))) b_add) ?_ b_add) (by rfl)))
      cases hdl : delayed wd rest with
      | true => exact ev_if_t (tr_eq (tr_cmp ev_str (ev_name (by assumption) (by walk_at "mlk")) (c_in_tup okk (lay_lit "delay") hal depth_str)) hdl) ev_int
      | false => exact ev_if_f (tr_eq (tr_cmp ev_str (ev_name (by assumption) (by walk_at "mlk")) (c_in_tup okk (lay_lit "delay") hal depth_str)) hdl) ev_int
end
end Mine
end
section
open PySem PySem.W PyProof.Rows PySem.Calls PySem.Spec
set_option maxRecDepth 100000
namespace Mine
section
variable {G : Glo} {c : Cx} {oc oc1 oc2 oc3 oc' pre post : List (Addr × Cell)} {ml ml1 ml2 ml' mlc : List (Str × Slot)} {tm : List (Value × Slot)} {h h' : Heap} {m : Str → Option Value} {own fz : Led} {lev : Nat} {out : Out}

noncomputable def kd (k : Int) : Str := if k = 0 then Str.ofString "block" else if k = 1 then Str.ofString "pack" else Str.ofString "accept"
noncomputable def kindsN (ns : List Int) (t : Int) (i : Nat) : List Str := (List.range i).map fun j => kd (cellV ns (t + 1 + (j : Nat)) 3)
noncomputable def nestV (ns : List Int) (t : Int) : List Str × List Str × Int :=
  let n := (cellV ns t 3).toNat
  let ks := kindsN ns t n
  let t1 := t + 1 + (n : Nat)
  if n = 0 then (ks, ks.reverse, t1) else
  if cellV ns t1 4 = 1 then (ks, ks.reverse.set 0 (kd (cellV ns (t1 + 1) 3)), t1 + 1 + 1)
  else if cellV ns t1 4 = 2 then (ks, ks.reverse.drop 1, t1 + 1)
  else if cellV ns t1 4 = 3 then (ks, ks.reverse.take 1 ++ ks.reverse, t1 + 1)
  else (ks, ks.reverse, t1 + 1)
theorem d_kinds (I : G.Is) : RV G.H0 [] (.ref 267) (.tuple (pSs ["block", "pack", "accept"])) := by
  refine rvK_sound G.X (n := 20) ?_
  rw [I.K]; kernel_rfl
theorem kind_at (ns : List Int) (t : Int) : (pSs ["block", "pack", "accept"])[(cellV ns t 3).toNat]? = some (.str (kd (cellV ns t 3))) := by
  obtain ⟨k, hk, hkv⟩ := cell_cases (ns := ns) (t := t) 3 (by decide)
  have hkv : cellV ns t 3 = (k : Int) := hkv
  rw [hkv, Int.toNat_natCast]
  rcases (by omega : k = 0 ∨ k = 1 ∨ k = 2) with rfl | rfl | rfl <;> rfl
theorem kd_lay (k : Int) : (PyData.str (kd k)).canLay0 = true := by
  unfold kd
  split
  · exact lay_lit "block"
  · split
    · exact lay_lit "pack"
    · exact lay_lit "accept"
theorem kindsN_len {ns : List Int} {t : Int} {i : Nat} : (kindsN ns t i).length = i := by simp [kindsN]
theorem kindsN_succ {ns : List Int} {t : Int} {i : Nat} : kindsN ns t (i + 1) = kindsN ns t i ++ [kd (cellV ns (t + 1 + (i : Nat)) 3)] := by simp [kindsN, List.range_succ]
theorem rev2 {α : Type} {xs : List α} (h : xs.length ≤ 2) : pickL xs none none (some (-1)) = xs.reverse := by
  match xs, h with
  | [], _ => rfl
  | [a], _ =>
    have e : sliceRange (sliceBounds none none (some (-1)) 1).1 (sliceBounds none none (some (-1)) 1).2.1 (sliceBounds none none (some (-1)) 1).2.2 = [0] := by decide
    show (sliceRange (sliceBounds none none (some (-1)) 1).1 (sliceBounds none none (some (-1)) 1).2.1 (sliceBounds none none (some (-1)) 1).2.2).filterMap _ = _
    rw [e]; rfl
  | [a, b], _ =>
    have e : sliceRange (sliceBounds none none (some (-1)) 2).1 (sliceBounds none none (some (-1)) 2).2.1 (sliceBounds none none (some (-1)) 2).2.2 = [1, 0] := by decide
    show (sliceRange (sliceBounds none none (some (-1)) 2).1 (sliceBounds none none (some (-1)) 2).2.1 (sliceBounds none none (some (-1)) 2).2.2).filterMap _ = _
    rw [e]; rfl
theorem pK_snoc {ks : List Str} {k : Str} : pK (ks ++ [k]) = pK ks ++ [.str k] := by simp [pK]
theorem lay_pKl {ks : List Str} (h : ∀ k ∈ ks, (PyData.str k).canLay0 = true) : (PyData.list (pK ks)).canLay0 = true := lay_list fun x hx => by
  obtain ⟨k, hk, rfl⟩ := List.mem_map.mp hx
  exact h k hk

/-- _law_kinds[_law_cell(urn, 3)] -/
theorem ev_kind {e1 : Expr} {pos : Pos} {ns : List Int} {t : Int} {p : Pos} (I : G.Is) (ok : c.Ok G lev) (hx : c.env.kindOf (Str.ofString "_law_kinds") = some .globalImplicit) (h1 : Ev G c oc ml e1 (.d (.int (cellV ns t 3))) oc1)
    (hs : ∀ o tk (k : Int), subscripted e1 false o (.int k tk) = operate [o, .int k tk] (getItem o (.int k tk)) := by intros; with_unfolding_all rfl) : Ev G c oc ml (.Subscript (.Name (Str.ofString "_law_kinds") p) e1 pos) (.d (.str (kd (cellV ns t 3)))) oc1 :=
  ev_sub (ev_globalD ok (g__law_kinds I) (d_kinds I) hx) h1 (s_tup ok (cellV_lo (by decide)) (by have := cellV_hi (ns := ns) (t := t) (many := 3) (by decide); omega) (kind_at ns t) (fun o tk => hs o tk _))

set_option maxHeartbeats 3200000 in
theorem law_nest_c0 (I : G.Is) (ok : c.Ok G (lev + 2)) {u : Addr} {ns : List Int} {t : Int} (h0 : 0 ≤ t) (hb : t ≤ 90000) (hl : ns.length ≤ 100) :
    Cal G c ((u, .urn ns t) :: post) ml (.ref 299) [.urn u] (.d (.tuple [.list (pK (nestV ns t).1), .list (pK (nestV ns t).2.1)])) ((u, .urn ns (nestV ns t).2.2) :: post) := by
  refine cal_def (lev := lev + 1) (names := [Str.ofString "urn"]) ok (by rw [I.K]; rfl) (by rw [I.K]; rfl) ?_ (by decide) rfl (by decide) (raw_swap (pre := []) fun _ h => nomatch h) ?_
  · intro s vs hl
    match vs, hl with
    | [v1], _ => exact BindsTo.of_eq rfl
  · intro fz g L' ok'
    have okk := ok'.toOk
    obtain ⟨n, hn3, hnv⟩ := cell_cases (ns := ns) (t := t) 3 (by decide)
    have hnv : cellV ns t 3 = (n : Int) := hnv
    have htn : (cellV ns t 3).toNat = n := by rw [hnv, Int.toNat_natCast]
    have hklay : ∀ k ∈ kindsN ns t n, (PyData.str k).canLay0 = true := fun k hk => by
      obtain ⟨j, _, rfl⟩ := List.mem_map.mp hk
      exact kd_lay _
    have hkl := kindsN_len (ns := ns) (t := t) (i := n)
    refine ex_assign_own ok' (by rfl) (evo_list evd_nil) fun a => ?_
    refine ex_weak (ml' := [(Str.ofString "urn", .urn u), (Str.ofString "kinds", .own a)]) (by walk_at "mls") ?_
    refine ex_cons (sx_for (n := n) (fun i => (a, .lst (pK (kindsN ns t i))) :: (u, .urn ns (t + 1 + (i : Nat))) :: post) (fun _ => [(Str.ofString "urn", .urn u), (Str.ofString "kinds", .own a)]) okk
      (ite_oc (oc1 := [(a, Cell.lst [])] ++ (u, .urn ns (t + 1)) :: post) (by simp [kindsN]) (ite_range (n := n) okk (ev_builtin okk (n_range I) (by rfl) (by decide) (by rfl)) (ev_eq (ev_cell (u := u) (t := t) (pre := [(a, Cell.lst [])]) (post := post) I okk (by rfl) (by walk_at "mlk") ev_int h0 (by omega) hl (by decide)) (by rw [hnv])) (by omega))) (fun i _ => tgt_name ok' (by rfl)) (fun tl i hi => ⟨_, .inl rfl, ?_⟩)) ?_
    · simp only [List.cons_append]
      rw [kindsN_succ, pK_snoc, show (t + 1 + ((i + 1 : Nat) : Int)) = t + 1 + (i : Nat) + 1 by omega]
      exact ex_weak_next (ex_cons (sx_expr (ev_append (pre := []) okk (by walk_at "mlk") (.head _) (ev_kind I okk (by rfl) (ev_cell (u := u) (t := t + 1 + (i : Nat)) (pre := [(a, Cell.lst (pK (kindsN ns t i)))]) (post := post ++ tl) I okk (by rfl) (by walk_at "mlk") ev_int (by omega) (by omega) hl (by decide))) (by rw [List.length_map, kindsN_len]; omega))) ex_nil) (by walk_at "mls")
    · refine ex_assign_own ok' (by rfl) (evo_slice okk (ev_name (by assumption) (by walk_at "mlk")) (ev_slice pte_none pte_none (pte_some (ev_neg ev_int))) (.inr ⟨a, rfl, .inl (.head _)⟩) (by decide) (by rw [List.length_map, hkl]; omega)) fun b => ?_
      rw [rev2 (by rw [List.length_map, hkl]; omega), ← List.map_reverse]
      refine ex_freeze (pre := [(b, .lst (pK (kindsN ns t n).reverse))]) (x := Str.ofString "kinds") (a := a) (ml' := [(Str.ofString "urn", .urn u), (Str.ofString "kinds", .d (.list (pK (kindsN ns t n)))), (Str.ofString "shut", .own b)]) ok' (.inl rfl) (by walk_at "mlk") (fun y hy => by
        rcases List.mem_cons.mp hy with rfl | hy
        · exact .inl (by walk_at "mlk")
        · rcases List.mem_cons.mp hy with rfl | hy
          · exact .inr rfl
          · rw [List.mem_singleton.mp hy]; exact .inl (by walk_at "mlk")) ?_
      have hrl : (kindsN ns t n).reverse.length = n := by rw [List.length_reverse, hkl]
      have hnest : nestV ns t = if n = 0 then (kindsN ns t n, (kindsN ns t n).reverse, t + 1 + (n : Nat)) else if cellV ns (t + 1 + (n : Nat)) 4 = 1 then (kindsN ns t n, (kindsN ns t n).reverse.set 0 (kd (cellV ns (t + 1 + (n : Nat) + 1) 3)), t + 1 + (n : Nat) + 1 + 1) else if cellV ns (t + 1 + (n : Nat)) 4 = 2 then (kindsN ns t n, (kindsN ns t n).reverse.drop 1, t + 1 + (n : Nat) + 1) else if cellV ns (t + 1 + (n : Nat)) 4 = 3 then (kindsN ns t n, (kindsN ns t n).reverse.take 1 ++ (kindsN ns t n).reverse, t + 1 + (n : Nat) + 1) else (kindsN ns t n, (kindsN ns t n).reverse, t + 1 + (n : Nat) + 1) := by
        unfold nestV
        simp only [htn]
      rw [hnest]
      generalize kindsN ns t n = ks at hklay hkl hrl
      generalize hrv : ks.reverse = rv at hrl
      have tst : (!(PyData.eqv (.list (pK ks)) (.list []))) = decide (n ≠ 0) := by
        rw [eqv_nil, ← hkl]
        cases ks <;> simp [pK]
      by_cases hn0 : n = 0
      · rw [if_pos hn0]
        refine ex_cons (sx_assign ok' (ev_if_f (tr_eq (tr_cmp (ev_name (by assumption) (by walk_at "mlk")) (ev_list evd_nil) (c_ne okk (lay_pKl hklay) lay_nil depth_nil)) (by rw [tst]; simp [hn0])) ev_int) (by rfl)) ?_
        refine ex_cons (sx_if_f (tr_eq (tr_cmp (ev_name (by assumption) (by walk_at "mlk")) ev_int (c_eqI okk)) (by rfl)) (ex_cons (sx_if_f (tr_eq (tr_cmp (ev_name (by assumption) (by walk_at "mlk")) ev_int (c_eqI okk)) (by rfl)) (ex_cons (sx_if_f (tr_eq (tr_cmp (ev_name (by assumption) (by walk_at "mlk")) ev_int (c_eqI okk)) (by rfl)) ex_nil) ex_nil)) ex_nil)) ?_
        exact ex_ret (sx_return (ev_tuple (evd_cons (ev_name (by assumption) (by walk_at "mlk")) (evd_cons (ev_freeze (.inl rfl) (ev_name (by assumption) (by walk_at "mlk"))) evd_nil))))
      · rw [if_neg hn0]
        refine ex_cons (sx_assign ok' (ev_if_t (tr_eq (tr_cmp (ev_name (by assumption) (by walk_at "mlk")) (ev_list evd_nil) (c_ne okk (lay_pKl hklay) lay_nil depth_nil)) (by rw [tst]; simp [hn0])) (ev_cell (u := u) (t := t + 1 + (n : Nat)) (pre := [(b, Cell.lst (pK rv))]) (post := post) I okk (by rfl) (by walk_at "mlk") ev_int (by omega) (by omega) hl (by decide))) (by rfl)) ?_
        generalize hbv : cellV ns (t + 1 + (n : Nat)) 4 = bv
        by_cases h1 : bv = 1
        · rw [if_pos h1]
          refine ex_cons (sx_if_t (tr_eq (tr_cmp (ev_name (by assumption) (by walk_at "mlk")) ev_int (c_eqI okk)) (by rw [h1]; rfl)) (ex_cons (sx_setitem (pre := []) (xs := pK rv) okk (ev_kind I okk (by rfl) (ev_cell (u := u) (t := t + 1 + (n : Nat) + 1) (pre := [(b, Cell.lst (pK rv))]) (post := post) I okk (by rfl) (by walk_at "mlk") ev_int (by omega) (by omega) hl (by decide))) (by walk_at "mlk") ev_int (.inl rfl) (by decide) (by rw [List.length_map, hrl]; omega) (by rw [List.length_map, hrl]; omega)) ex_nil)) ?_
          refine ex_ret (sx_return (ev_eq (ev_tuple (evd_cons (ev_name (by assumption) (by walk_at "mlk")) (evd_cons (ev_freeze (.inr rfl) (ev_name (by assumption) (by walk_at "mlk"))) evd_nil))) ?_))
          simp [pK, List.map_set]
        · rw [if_neg h1]
          by_cases h2 : bv = 2
          · rw [if_pos h2]
            refine ex_cons (sx_if_f (tr_eq (tr_cmp (ev_name (by assumption) (by walk_at "mlk")) ev_int (c_eqI okk)) (by simpa using h1)) (ex_cons (sx_if_t (tr_eq (tr_cmp (ev_name (by assumption) (by walk_at "mlk")) ev_int (c_eqI okk)) (by rw [h2]; rfl)) (ex_cons (sx_assign ok' (EvO.ev (evo_slice okk (ev_name (by assumption) (by walk_at "mlk")) (ev_slice (pte_some ev_int) pte_none pte_none) (.inr ⟨b, rfl, .inl (.head _)⟩) (by decide) (by rw [List.length_map, hrl]; omega))) (by rfl)) ex_nil)) ex_nil)) ?_
            refine ex_ret (sx_ret_drop (pre := [(b, .lst (pK rv))]) ok' (sx_return (ev_eq (ev_tuple (evd_cons (ev_name (by assumption) (by walk_at "mlk")) (evd_cons (ev_name (by assumption) (by walk_at "mlk")) evd_nil))) ?_)))
            rw [pick_from1]; simp [pK, List.map_drop]
          · rw [if_neg h2]
            by_cases h3 : bv = 3
            · rw [if_pos h3]
              refine ex_cons (sx_if_f (tr_eq (tr_cmp (ev_name (by assumption) (by walk_at "mlk")) ev_int (c_eqI okk)) (by simpa using h1)) (ex_cons (sx_if_f (tr_eq (tr_cmp (ev_name (by assumption) (by walk_at "mlk")) ev_int (c_eqI okk)) (by simpa using h2)) (ex_cons (sx_if_t (tr_eq (tr_cmp (ev_name (by assumption) (by walk_at "mlk")) ev_int (c_eqI okk)) (by rw [h3]; rfl)) (ex_cons (sx_assign ok' (ev_bin (EvO.ev (evo_slice okk (ev_name (by assumption) (by walk_at "mlk")) (ev_slice pte_none (pte_some ev_int) pte_none) (.inr ⟨b, rfl, .inl (.head _)⟩) (by decide) (by rw [List.length_map, hrl]; omega))) (ev_name (by assumption) (by walk_at "mlk")) (b_add_list okk (.inl rfl) (.inr ⟨b, rfl, .inl (.head _)⟩) (by rw [pick_upto (by decide), List.length_take, List.length_map, hrl]; omega))) (by rfl)) ex_nil)) ex_nil)) ex_nil)) ?_
              refine ex_ret (sx_ret_drop (pre := [(b, .lst (pK rv))]) ok' (sx_return (ev_eq (ev_tuple (evd_cons (ev_name (by assumption) (by walk_at "mlk")) (evd_cons (ev_name (by assumption) (by walk_at "mlk")) evd_nil))) ?_)))
              rw [pick_upto (by decide)]; simp [pK, List.map_take]
            · rw [if_neg h3]
              refine ex_cons (sx_if_f (tr_eq (tr_cmp (ev_name (by assumption) (by walk_at "mlk")) ev_int (c_eqI okk)) (by simpa using h1)) (ex_cons (sx_if_f (tr_eq (tr_cmp (ev_name (by assumption) (by walk_at "mlk")) ev_int (c_eqI okk)) (by simpa using h2)) (ex_cons (sx_if_f (tr_eq (tr_cmp (ev_name (by assumption) (by walk_at "mlk")) ev_int (c_eqI okk)) (by simpa using h3)) ex_nil) ex_nil)) ex_nil)) ?_
              exact ex_ret (sx_return (ev_tuple (evd_cons (ev_name (by assumption) (by walk_at "mlk")) (evd_cons (ev_freeze (.inl rfl) (ev_name (by assumption) (by walk_at "mlk"))) evd_nil))))
theorem law_nest_c (I : G.Is) (ok : c.Ok G (lev + 2)) {u : Addr} {ns : List Int} {t : Int} (h0 : 0 ≤ t) (hb : t ≤ 90000) (hl : ns.length ≤ 100) :
    Cal G c (pre ++ (u, .urn ns t) :: post) ml (.ref 299) [.urn u] (.d (.tuple [.list (pK (nestV ns t).1), .list (pK (nestV ns t).2.1)])) (pre ++ (u, .urn ns (nestV ns t).2.2) :: post) := cal_mid (law_nest_c0 I ok h0 hb hl)
end
end Mine
end
section
open PySem PySem.W PyProof.Rows PySem.Calls PySem.Spec
set_option maxRecDepth 100000
namespace Mine
section
variable {G : Glo} {c : Cx} {oc oc1 oc2 oc3 oc' pre post : List (Addr × Cell)} {ml ml1 ml2 ml' mlc : List (Str × Slot)} {tm : List (Value × Slot)} {h h' : Heap} {m : Str → Option Value} {own fz : Led} {lev : Nat} {out : Out}

theorem kts_groundX {A₀ : Around} {base g Gh B h₅ : Heap} {outer : List Env} {L : Addr} {env : Env} (K : Below A₀ base outer g) (F : Fr g L Gh m) (hf : env.frame = some L) (hBG : ∀ b o, Gh.get? b = some o → b ∉ (env :: outer).filterMap (·.frame) → B.get? b = some o) (hBh : B.StaysIn h₅) (hsm : Gh.UpToSlots h₅) :
    ∃ g', KtsTurn (outer.filterMap (·.frame)) g g' ∧ Fr g' L h₅ m ∧ Below A₀ base outer g' := by
  obtain ⟨T, S⟩ := kts_turn_at (h := h₅) (fs := outer.filterMap (·.frame)) (g := g)
    (fun b hb => by
      obtain ⟨_, o, ho, _⟩ := K.frames.mem hb
      exact ⟨o, ho⟩)
    (fun b o e nm => hBh b o (hBG b o (F.keep b o e) (fun hm => by
      rcases fr_mem hf hm with z | z
      · rw [z, kts_self F] at e
        cases e
      · exact nm z)))
    (fun b o e hm => by
      obtain ⟨_, o', ho', hd⟩ := K.frames.mem hm
      rw [e] at ho'
      cases ho'
      exact hsm b o (F.keep b o e) hd)
  refine ⟨_, T, ⟨hsm.ns F.ns, S, by rw [T.size]; exact F.above⟩, ⟨K.stack, fun b o e => T.other b o (K.stays b o e) (fun hm => by
    rw [(K.frames.mem hm).1] at e
    cases e), K.frames.of_keeps fun b o e _ => ?_⟩⟩
  obtain ⟨sl, hs⟩ := T.up e
  exact ⟨_, hs, rfl⟩

noncomputable def Cx.ground (c : Cx) (g : Heap) : Cx := { c with h₀ := g }

theorem catch_exc {x : Str} {np pos : Pos} {b₀ : Stmt} {suite : List Stmt} {rest : List ExceptHandler} {s' : Shared} {e : Addr} {g : Heap} {Q : Flow → Shared → Prop} {E : Value → Shared → Prop} (I : G.Is) (ok : c.FOk G lev) (X : Exc0 G c oc ml e s'.heap g m own fz)
    (hx : c.env.kindOf x = some .globalImplicit) (ex : nsIn G.K mainGlobals x = some (some (.ref 44))) (hE : PassesOwnAt (model G.prog G.w) (c.A.mark (some (.ref e))) c.A c.env E)
    (k : ∀ h' g', KtsTurn (c.outer.filterMap (·.frame)) c.h₀ g' → Below c.A₀ G.H0 c.outer g' → St0 G (c.ground g') oc ml [] h' m own fz → wpAny (model G.prog G.w) (c.A.mark (some (.ref e))) (execs (b₀ :: suite) c.env) Q E { s' with heap := h' })
    (hd : (x == ("__debug__" : Str)) = false := by decide) :
    wpAny (model G.prog G.w) c.A (noteFrame (.ref e) c.env) (fun _ s₂ => wpAny (model G.prog G.w) c.A (setFlight (.ref e) none) (fun _ s₃ =>
        wpAny (model G.prog G.w) c.A (handleBy (.ref e) c.env (.ExceptHandler (some (.Name x np)) none (b₀ :: suite) pos :: rest)) Q E s₃) E s₂) E s' := by
  have K := ok.below
  obtain ⟨B, a0, hB, hBG, hl, hfl⟩ := X.R
  have F := X.F
  have hfe : c.env.frame = some c.L := by rw [ok.same]; exact ok.frame
  have hL : B.get? c.L = none := by
    obtain ⟨_, ⟨L', _, hf, hn', _⟩, _⟩ := hfl.2.2.1
    rw [ok.frame] at hf
    obtain rfl : c.L = L' := Option.some.inj hf
    exact hn'
  rw [← ok.same] at hfl
  have hst : c.A.frames = some (c.env :: c.outer) := by
    rw [ok.same]; exact Around.frames_deeper K.stack
  refine wpAny_looks_onW hst hfe hfl fun h₄ hheld₄ hsm₄ => ?_
  refine wpAny_landsW hheld₄ fun h₅ hheld hsm₅' => ?_
  have hsm₅ := hsm₄.trans hsm₅'
  obtain ⟨g₅, T₅, F₅, K₅⟩ := kts_groundX K F ok.frame hBG hheld.1 (X.up.trans hsm₅)
  have up₅ : ∀ b o, G.H0.get? b = some o → h₅.get? b = some o := fun b o q => F₅.keep b o (K₅.stays b o q)
  obtain ⟨ob, hob, hobc⟩ := hheld.there
  have q : ktsIn G.K 44 "BaseException" = true := by rw [I.K]; kernel_rfl
  obtain ⟨nm, q', N, bs, bm, hdct, sn, sub, ab, col, dd, k0, k1, k2, k3, k5, newId, hC, hbase, hbT⟩ := kts_cls (G.X.keeps up₅) q
  refine wpAny_handleBy_cons (codeAny_handlers_test (Name_function_global ok.kind hx (loadGlobal_global (mg := G.mg) ?_ (mg_of G.X G.T.g ex) ?_) hd)) (by intro q; cases q)
  · rw [ok.globals]
    exact G.T.g.keeps up₅
  refine wpAny_excMatches_sub_self hC hob hobc hbase (codeAny_handlers_suite ?_)
  refine lands_againW hheld fun h₆ hfl₆ hsm₆ => ?_
  obtain ⟨g₆, T₆, F₆, K₆⟩ := kts_groundX K F ok.frame hBG hfl₆.1 ((X.up.trans hsm₅).trans hsm₆)
  have Nl : News g₆ c.L h₆ (own ++ fz) := fun q hq => ⟨hfl₆.1 _ _ (hl q hq).1, (fun z => by have := (hl q hq).1; rw [z, hL] at this; cases this), T₆.none_ _ (kts_none F.keep (hl q hq).2.1)⟩
  refine wpAny_passesOwnAt hE (k h₆ g₆ T₆ K₆ ⟨F₆, Nl, X.O, X.nd, X.ap, X.sub, ?_, fun x hx => nomatch hx⟩)
  exact vs_of (c := c.ground g₆) ok.nofml X.V

/-- leaving a def whose outer frame's object may have turned -/
noncomputable def LeaveT (h₀ : Heap) (L : Addr) (m : Str → Option Value) (fs : List Addr) (g : Heap) (R : Result → Shared → Prop) (v : Value) (s' : Shared) : Prop :=
  ∃ g' L' m' news', KtsTurn fs g g' ∧ Fr g' L' s'.heap m' ∧ News g' L' s'.heap news' ∧ (Fr h₀ L s'.heap m → News h₀ L s'.heap news' → R (.ok (.ret v)) s')
theorem LeaveT.go {h₀ g : Heap} {L : Addr} {R : Result → Shared → Prop} {v : Value} {s' : Shared} (FG : Fr h₀ L g m) (hl : LeaveT h₀ L m [L] g R v s') : R (.ok (.ret v)) s' := by
  obtain ⟨g', L', m', news', T', F', N', k⟩ := hl
  obtain ⟨oL, es, ep, hLg, hLd, hLk, hLf⟩ := FG.ns
  have nL₀ : h₀.get? L = none := kts_self FG
  obtain ⟨sl, hs⟩ := T'.up hLg
  refine k ⟨⟨_, es, ep, F'.keep _ _ hs, hLd, hLk, hLf⟩, fun b o e => F'.keep b o (T'.other b o (FG.keep b o e) (fun q => by
    rw [List.mem_singleton.mp q, nL₀] at e
    cases e)), FG.above⟩ fun p hp => ⟨(N' p hp).1, fun q => ?_, ?_⟩
  · have := (N' p hp).2.2; rw [q, hs] at this; cases this
  · cases q : h₀.get? p.1 with
    | none => rfl
    | some o =>
      obtain ⟨sl2, h2⟩ := T'.up (FG.keep _ _ q)
      have := (N' p hp).2.2
      rw [h2] at this; cases this

/-- the statements end with a return, perhaps out of a handler -/
noncomputable def ExT (G : Glo) (c : Cx) (oc : List (Addr × Cell)) (ml : List (Str × Slot)) (ss : List Stmt) (sl : Slot) (oc' : List (Addr × Cell)) : Prop :=
  ∀ (s : Shared) (Q : Flow → Shared → Prop) (E : Value → Shared → Prop), PassesOwn (model G.prog G.w) c.A c.env E → (∀ v, PassesOwnAt (model G.prog G.w) (c.A.mark (some v)) c.A c.env E) → St G c oc ml [] s.heap →
    (∀ v h' tk' g', KtsTurn (c.outer.filterMap (·.frame)) c.h₀ g' → St G (c.ground g') oc' [] [(v, sl)] h' → Q (.ret v) { s with heap := h', toks := tk' }) → wpAny (model G.prog G.w) c.A (execs ss c.env) Q E s
theorem ext_ex {ss : List Stmt} {sl : Slot} (h : Ex G c oc ml ss (.ret sl oc1)) : ExT G c oc ml ss sl oc1 := fun s Q E hE _ S k => h [] s Q E hE S fun v h' tk' S' => k v h' tk' c.h₀ .refl S'
theorem ext_cons {st : Stmt} {rest : List Stmt} {sl : Slot} (h1 : Sx G c oc ml st (.next oc1 ml1)) (h2 : ExT G c oc1 ml1 rest sl oc2) : ExT G c oc ml (st :: rest) sl oc2 := fun s Q E hE hA S k =>
  wpAny_execs_cons (h1 [] s _ E hE S fun h' tk' S1 => h2 _ Q E hE hA S1 k)
theorem ext_weak {ss : List Stmt} {sl : Slot} (hs : ∀ x ∈ ml', x ∈ ml) (h : ExT G c oc ml' ss sl oc1) : ExT G c oc ml ss sl oc1 := fun s Q E hE hA S k => h s Q E hE hA (S.mls hs) k
theorem ext_assign_cell {x : Str} {p pos : Pos} {e : Expr} {rest : List Stmt} {sl sl2 : Slot} {pre post : List (Addr × Cell)} {a : Addr} {o : Obj} {v₀ : Option Value} (ok : c.FOk G lev) (h1 : Ev G c oc ml e sl (pre ++ (a, .raw o) :: post)) (hx : c.env.kindOf x = some .cell)
    (hc : c.env.cells.lookup x = some a) (hd : o.data = .cell v₀) (h2 : ∀ o' v, o'.data = .cell (some v) → ExT G c (pre ++ (a, .raw o') :: post) (updm x sl ml) rest sl2 oc1) (hs : swapsWith e (some (.Name x p)) pos.line c.env = pure false := by rfl) : ExT G c oc ml (.Assign [.Name x p] e pos :: rest) sl2 oc1 := by
  intro s Q E hE hA S k
  refine wpAny_execs_cons (wpAny_Assign_Name (h1 [] s _ E S fun v g t S1 => ?_) hs)
  refine store_cell ok hx hc hd S1 fun h' o' hd' S2 => ?_
  exact h2 o' v hd' _ Q E hE hA S2 k
/-- a new list of one's own under a name that is a cell -/
theorem ext_own_cell {x : Str} {p pos : Pos} {e : Expr} {rest : List Stmt} {sl2 : Slot} {ds : List PyData} {pre post : List (Addr × Cell)} {a : Addr} {o : Obj} {v₀ : Option Value} (ok : c.FOk G lev) (h1 : EvO G c oc ml e ds (pre ++ (a, .raw o) :: post)) (hx : c.env.kindOf x = some .cell)
    (hc : c.env.cells.lookup x = some a) (hd : o.data = .cell v₀) (h2 : ∀ b o' v, o'.data = .cell (some v) → ExT G c ((b, .lst ds) :: (pre ++ (a, .raw o') :: post)) (updm x (.own b) ml) rest sl2 oc1) (hs : swapsWith e (some (.Name x p)) pos.line c.env = pure false := by rfl) : ExT G c oc ml (.Assign [.Name x p] e pos :: rest) sl2 oc1 := by
  intro s Q E hE hA S k
  refine wpAny_execs_cons (wpAny_Assign_Name (h1 [] s _ E S fun b g t S1 => ?_) hs)
  refine store_cell (pre := (b, .lst ds) :: pre) ok hx hc hd S1 fun h' o' hd' S2 => ?_
  exact h2 b o' _ hd' _ Q E hE hA S2 k
/-- try: a call that gives none or raises; except BadCode: return not x -/
theorem ext_try {x f : Str} {p1 p2 p3 p4 pos pos2 np hpos fp : Pos} {e : Expr} {es : List Expr} {fa : Addr} {sls : List Slot} {bad b : Bool} {rest : List Stmt} {sl : Slot} {pre : List (Addr × Cell)} (I : G.Is) (ok : c.FOk G lev) (h0 : Ev G c oc ml (.Name f fp) (.raw (.ref fa)) oc) (hk : keepIn G.K (.ref fa) = true)
    (h1 : EvL G c oc ml (e :: es) sls oc1) (h2 : CalB G c oc1 ml (.ref fa) sls (pre ++ oc2) bad) (hm : (x, .d (.bool b)) ∈ ml) (hxl : c.env.kindOf x = some .local) (hxb : c.env.kindOf (Str.ofString "BadCode") = some .globalImplicit)
    (hg : bad = false → ExT G c (pre ++ oc2) ml rest sl oc2) (hb : bad = true → sl = .d (.bool !b))
    (hi : interactive c.env = false := by rfl) (hs : swapsWith (.Call (.Name f fp) (e :: es) [] pos) none pos2.line c.env = pure false := by rfl) (he : starEach (e :: es) c.env = (false, eval e c.env) :: starEach es c.env := by rfl) (hplain : (backTo pos (starEach es c.env)).any (·.1) = false := by rfl)
    (hd : (x == ("__debug__" : Str)) = false := by decide) :
    ExT G c oc ml (.Try [.Expr (.Call (.Name f fp) (e :: es) [] pos) pos2] [.ExceptHandler (some (.Name (Str.ofString "BadCode") np)) none [.Return (some (.UnaryOp .Not (.Name x p1) p2)) p3] hpos] [] [] p4 :: rest) sl oc2 := by
  intro s Q E hE hA S k
  refine wpAny_execs_cons (wpAny_Try_except ?_)
  cases hbad : bad with
  | false =>
    refine wpAny_execs_cons (wpAny_Expr_any (ev_callK ok.toOk h0 hk h1 (h2.1 hbad) he hplain [] s _ _ S fun v h' tk' S1 => ?_) hi hs)
    refine wpAny_execs_nil ?_
    refine wpAny_execs_nil ?_
    exact hg hbad _ Q E hE hA (S1.tms fun _ h => nomatch h) k
  | true =>
    refine wpAny_execs_cons (wpAny_Expr_any (ev_callKX ok.toOk h0 hk h1 (h2.2 hbad) he hplain [] s _ _ S fun e h' tk' X => ?_) hi hs)
    obtain ⟨g, m, own, fz, X⟩ := X
    obtain rfl := hb hbad
    refine catch_exc (m := m) (own := own) (fz := fz) (oc := pre ++ oc2) (ml := ml) I ok X hxb (g_BadCode I) (hA _) (fun h6 g6 T6 K6 S6 => ?_)
    have hL : c.env.locals = c.L := by rw [ok.same, ok.locs]
    obtain ⟨v, hv, r⟩ := S6.V1 _ hm
    have hloc : m x = some v := by
      rcases hv with ⟨_, _, e⟩ | ⟨a, oC, m₂, b2, e, f⟩ | ⟨a, _⟩
      · exact e
      · exfalso
        obtain ⟨o', h1, _⟩ := owns_mem S6.O b2
        exact (S6.N _ (List.mem_append_left _ h1)).2.1 hL
      · rcases a with a | a <;> (have a : c.env.kindOf x = _ := a; rw [hxl] at a; cases a)
    obtain rfl := rv_bool r
    refine wpAny_execs_cons (wpAny_Return_some (UnaryOp_ (wpAny_Name (wpAny_loadName_local ok.kind hxl (hL ▸ S6.F.ns) hloc (not_of (wpAny_truthy_bool ?_))) hd)))
    obtain ⟨own2, S7⟩ := (S6.mls (ml' := []) (fun _ h => nomatch h)).drop (c := c.ground g6) ok.nofml
    exact k _ _ _ g6 T6 ⟨m, own2, fz, S7.tok (RV.bool _)⟩
end
end Mine
end
section
open PySem PySem.W PyProof.Rows PySem.Calls PySem.Spec
set_option maxRecDepth 100000
namespace Mine
section
variable {prog : Program} {w : World} {A₀ A : Around} {s : Shared} {base h₀ : Heap} {L : Addr} {m : Str → Option Value} {env : Env} {news : List (Addr × Obj)}
  {R : Result → Shared → Prop} {name qual : Str} {params : Arguments} {body : List Stmt} {scope : Scope} {dV kV doc pm cdv ct : Value} {an : Option Addr} {fo : Obj} {f : Addr} {args : Args} {binds : List (Str × Value)}
theorem callX_cellsT (B : Below A₀ base [] h₀) (F : Fr h₀ L s.heap m) (N : News h₀ L s.heap news) (hlim : h₀.NoLimit) (hA : A.frames = some [env]) (hf : env.frame = some L) (hke : env.scope.kind = .function)
    (ho : s.heap.get? f = some fo) (hd : fo.data = .func (fnX name qual params body scope [] dV kV doc pm an cdv ct)) (hcd : s.heap.CodeRec cdv qual) (hroom : A.depth < recursionLimit)
    (hbind : BindsTo s (fnX name qual params body scope [] dV kV doc pm an cdv ct) args binds)
    (hkind : ∀ n, ∀ x ∈ binds, scope.names.lookup x.1 = some .local ∨ (scope.names.lookup x.1 = some .cell ∧ ((cellsFrom n scope.names []).lookup x.1).isSome = true))
    (hnd : ((cellsFrom 0 scope.names []).map (·.1)).Nodup)
    (h : ∀ g L' h₁ tk cells, Fr h₀ L g m → Fr g L' h₁ (bindL (envOfC qual scope L' f cdv).kindOf binds fun _ => none) → News g L' h₁ (cells ++ news) →
      CellsAre (bindC (envOfC qual scope L' f cdv).kindOf binds fun _ => none) (cellsFrom (L' + 1) scope.names []) cells → Below A base [env] g → h₀.StaysIn g → (∀ p ∈ news, p.1 < L') →
      wpAny (model prog w) (A.deeper (envOfC qual scope L' f cdv)) (execs body (envOfC qual scope L' f cdv))
        (fun fl s' => LeaveT h₀ L m [L] g R (match fl with | .ret v => v | _ => .none) s')
        (fun e s' => wpAny (model prog w) (A.deeper (envOfC qual scope L' f cdv)) (leaving (envOfC qual scope L' f cdv) e) (fun _ s'' => R (.error e) s'') (fun e' s'' => R (.error e') s'') s')
        { s with heap := h₁, toks := tk })
    (hco : scope.isCoroutine = false := by rfl) (hgen : scope.isGenerator = false := by rfl) (hk : scope.kind = .function := by rfl) : codeAny (model prog w) A (.call (.ref f) args) R s := by
  obtain ⟨FG, BG, st, _⟩ := groundX (R := R) B F N hA hf hke
  refine codeAny_call_function hroom ho hd hco hgen rfl hcd (hbind _ _ _ _ ?_)
  refine wpAny_newFunctionEnv_cells hk (hkind _) fun env' he s' x => ?_
  subst he
  refine ⟨(hlim.keeps F.keep).keeps x.toInCall.keep, codeAny_func ?_⟩
  obtain ⟨h₁, tk, rfl, _⟩ := x.done
  have hk₁ := x.toInCall.keep
  obtain ⟨cells, NC, Y⟩ := Cl.news (h₀ := s.heap) (Nat.le_refl _) fun n c hm => ⟨x.cell n c (lookup_of_mem_nodup (cellsFrom_names scope.names 0 (s.heap.objs.size + 1) [] [] rfl ▸ hnd) hm), x.above n c hm⟩
  refine wpAny_mono (h _ s.heap.objs.size h₁ tk cells FG ⟨x.toInCall.ns, fun b o e => hk₁ b o (of_hideAll _ e), Nat.le_of_eq (hideAll_size _ _)⟩ (fun p hp => ?_) Y BG st (fun p hp => Heap.lt_size (N p hp).1)) (fun fl s' hl => hl.go FG) fun _ _ y => y
  rcases List.mem_append.mp hp with hp | hp
  · refine ⟨(NC p hp).1, (NC p hp).2.1, ?_⟩
    cases q : (hideAll s.heap (news.map (·.1))).get? p.1 with
    | none => rfl
    | some o => have := of_hideAll _ q; rw [(NC p hp).2.2] at this; cases this
  · exact ⟨hk₁ _ _ (N p hp).1, Nat.ne_of_lt (Heap.lt_size (N p hp).1), hideAll_none _ (List.mem_map_of_mem hp)⟩
end
section
variable {G : Glo} {c : Cx} {oc oc1 oc2 oc3 oc' pre post : List (Addr × Cell)} {ml ml1 ml2 ml' mlc : List (Str × Slot)} {tm : List (Value × Slot)} {h h' : Heap} {m : Str → Option Value} {own fz : Led} {lev : Nat} {out : Out}

theorem cal_defCT {name qual : Str} {params : Arguments} {body : List Stmt} {scope : Scope} {dV kV doc pm cdv ct oC : Value} {an od : Option Addr} {osl : Array (Option Value)} {f : Addr} {names : List Str} {sls : List Slot} {sl : Slot}
    (ok : c.Ok G (lev + 1)) (hout : c.outer = [])
    (ho : G.K.lookup f = some ⟨oC, od, .func (fnOf name qual params body scope dV kV doc pm an cdv ct), osl⟩) (hcd : codeIn G.K cdv qual = true)
    (hbind : ∀ (s : Shared) (vs : List Value), vs.length = names.length → BindsTo s (fnOf name qual params body scope dV kV doc pm an cdv ct) ⟨vs, []⟩ (names.zip vs))
    (hn : names.Nodup) (hln : sls.length = names.length) (hkn : ∀ x ∈ names, scope.names.lookup x = some .local ∨ (scope.names.lookup x = some .cell ∧ ∀ n, ((cellsFrom n scope.names []).lookup x).isSome = true))
    (hnd : ((cellsFrom 0 scope.names []).map (·.1)).Nodup)
    (hraw : ∀ a o, (a, Cell.raw o) ∈ oc → (a, Cell.raw o) ∈ oc')
    (hbody : ∀ fz g L' cells cm, (c.callee fz g L' (envOfC qual scope L' f cdv)).FOk G lev → CellsAre cm (cellsFrom (L' + 1) scope.names []) cells → ExT G (c.callee fz g L' (envOfC qual scope L' f cdv)) (rawOf cells ++ oc) (names.zip sls) body sl oc')
    (hco : scope.isCoroutine = false := by rfl) (hgen : scope.isGenerator = false := by rfl) (hk : scope.kind = .function := by rfl) :
    Cal G c oc ml (.ref f) sls sl oc' := by
  rintro tm s Q E vs hl ⟨m, own, fz, S⟩ k
  have hA : c.A.frames = some [c.fenv] := hout ▸ Around.frames_deeper ok.below.stack
  refine wpAny_call (callX_cellsT (hout ▸ ok.below) S.F S.N ((G.T.nolimit.keeps ok.sub)) hA ok.frame ok.fkind ((S.up ok).1 _ _ (G.X _ _ ho)) rfl (codeRec_of (G.X.keeps (S.up ok).1) hcd) ok.roomA
    (hbind s vs (hl.trans hln)) (fun n y hy => (hkn _ (List.of_mem_zip hy).1).imp id fun h => ⟨h.1, h.2 n⟩) hnd (fun g L' h₁ tk cells FG F' N' Y B' st lt => ?_) hco hgen hk)
  have ok' := callee_ok (fz := fz) (L' := L') (env := envOfC qual scope L' f cdv) ok (hout ▸ B') hk rfl rfl rfl rfl cells_inj
  obtain ⟨m1, S1⟩ := enterC (c := c) hl hn hkn S.O S.nd S.ap (fun x hx => S.tmp x (List.mem_append_left _ hx)) F' N' Y lt
  refine hbody fz g L' cells _ ok' Y _ _ _ PassesOwn.leaving (fun v => by passes_own) ⟨m1, _, fz, S1⟩ ?_
  intro v h' tk' g' T' S'
  obtain ⟨m', own', fz', S'⟩ := S'
  have hfs : (c.fenv :: c.outer).filterMap (·.frame) = [c.L] := by rw [hout]; simp [ok.frame]
  have T' : KtsTurn [c.L] g g' := hfs ▸ T'
  refine ⟨g', L', m', own' ++ fz', T', S'.F, S'.N, fun F2 N2 => ?_⟩
  refine k v h' tk' ⟨m, own', fz', ?_⟩
  have z := St0.back S F2 N2 S'.O S'.nd S'.ap S'.sub hraw
  exact z.put (fun x hx => List.mem_append_right _ hx) (S'.tmp _ (.head _))
end
end Mine
end
section
open PySem PySem.W PyProof.Rows PySem.Calls PySem.Spec
set_option maxRecDepth 100000
namespace Mine
section
variable {G : Glo} {c : Cx} {oc oc1 oc2 oc3 oc' pre post : List (Addr × Cell)} {ml ml1 ml2 ml' mlc : List (Str × Slot)} {tm : List (Value × Slot)} {h h' : Heap} {m : Str → Option Value} {own fz : Led} {lev : Nat} {out : Out}

theorem evo_add {l r : Expr} {pos : Pos} {s1 s2 : Slot} {xs ys : List PyData} (ok : c.Ok G lev) (h1 : Ev G c oc ml l s1 oc1) (h2 : Ev G c oc1 ml r s2 oc2) (l1 : Lst oc2 s1 xs) (l2 : Lst oc2 s2 ys) (hsz : xs.length + ys.length ≤ 10000) : EvO G c oc ml (.BinOp l .Add r pos) (xs ++ ys) oc2 := by
  intro tm s Q E S k
  refine wpAny_BinOp (h1 tm s _ E S fun v1 g1 t1 S1 => ?_)
  refine h2 _ _ _ E S1 fun v2 g2 t2 S2 => ?_
  obtain ⟨m, own, fz, S2⟩ := S2
  obtain ⟨b, ws, rfl, hb, rb⟩ := S2.lst ok l2 (S2.tmp _ (.head _))
  obtain ⟨a, vs, rfl, ha, ra⟩ := S2.lst ok l1 (S2.tmp _ (.tail _ (.head _)))
  refine add_lists S2.F S2.N ha hb (fun h' F' N' => ?_) (by rw [ra.length, rb.length]; exact sz_ok hsz)
  exact k _ h' t2 (St0.newList (nn := 0) (S2.tms (tm' := tm) fun x hx => .tail _ (.tail _ hx)) F' N' (size_none _) (ra.append rb))
end
end Mine
end
section
open PySem PySem.W PyProof.Rows PySem.Calls PySem.Spec
set_option maxRecDepth 100000
namespace Mine
section
variable {G : Glo} {c : Cx} {oc oc1 oc2 oc3 oc' pre post : List (Addr × Cell)} {ml ml1 ml2 ml' mlc : List (Str × Slot)} {tm : List (Value × Slot)} {h h' : Heap} {m : Str → Option Value} {own fz : Led} {lev : Nat} {out : Out}

theorem kp_287 (I : G.Is) : keepIn G.K (.ref 287) = true := by rw [I.K]; kernel_rfl
theorem kp_299 (I : G.Is) : keepIn G.K (.ref 299) = true := by rw [I.K]; kernel_rfl
theorem kp_292 (I : G.Is) : keepIn G.K (.ref 292) = true := by rw [I.K]; kernel_rfl
theorem kp_158 (I : G.Is) : keepIn G.K (.ref 158) = true := by rw [I.K]; kernel_rfl
theorem kp_259 (I : G.Is) : keepIn G.K (.ref 259) = true := by rw [I.K]; kernel_rfl
theorem kp_266 (I : G.Is) : keepIn G.K (.ref 266) = true := by rw [I.K]; kernel_rfl
theorem d_lasts (I : G.Is) : RV G.H0 [] (.ref 273) (.tuple (pSs ["endsub", "endbody", "endentry", "enddecls", "endvalue"])) := by
  refine rvK_sound G.X (n := 20) ?_
  rw [I.K]; kernel_rfl
noncomputable def lastS (k : Int) : Str := if k = 0 then Str.ofString "endsub" else if k = 1 then Str.ofString "endbody" else if k = 2 then Str.ofString "endentry" else if k = 3 then Str.ofString "enddecls" else Str.ofString "endvalue"
theorem last_at (ns : List Int) (t : Int) : (pSs ["endsub", "endbody", "endentry", "enddecls", "endvalue"])[(cellV ns t 5).toNat]? = some (.str (lastS (cellV ns t 5))) := by
  obtain ⟨k, hk, hkv⟩ := cell_cases (ns := ns) (t := t) 5 (by decide)
  have hkv : cellV ns t 5 = (k : Int) := hkv
  rw [hkv, Int.toNat_natCast]
  rcases (by omega : k = 0 ∨ k = 1 ∨ k = 2 ∨ k = 3 ∨ k = 4) with rfl | rfl | rfl | rfl | rfl <;> rfl
/-- the row that opens a level -/
noncomputable def openD (k : Str) : PyData := if k = Str.ofString "block" then .tuple [.str k, .str (Str.ofString "b")] else if k = Str.ofString "pack" then .tuple [.str k] else .tuple [.str k, .str (Str.ofString "e"), .int 0, .list []]
theorem opens (I : G.Is) (k : Int) : ∃ v, nsIn G.K 268 (kd k) = some (some v) ∧ RV G.H0 [] v (openD (kd k)) := by
  unfold kd
  split
  · refine ⟨.ref 269, by rw [I.K]; kernel_rfl, rvK_sound G.X (n := 20) (by rw [I.K]; kernel_rfl)⟩
  · split
    · refine ⟨.ref 270, by rw [I.K]; kernel_rfl, rvK_sound G.X (n := 20) (by rw [I.K]; kernel_rfl)⟩
    · refine ⟨.ref 272, by rw [I.K]; kernel_rfl, rvK_sound G.X (n := 20) (by rw [I.K]; kernel_rfl)⟩

noncomputable abbrev Word := Str × Str × Str × Str
noncomputable def wordD (w : Word) : PyData := .list [.str w.1, .str w.2.1, .str w.2.2.1, .str w.2.2.2]
noncomputable def constD (k : Int) : PyData := .tuple [.str (Str.ofString "const"), .int k]
noncomputable def oneD (x : Str) : PyData := .tuple [.str x]
noncomputable def rg0 (ks : List Str) (mN : Nat) : List PyData := ks.map openD ++ List.replicate mN (constD 1)
noncomputable def hereD (n : Int) (x : PyData) : PyData := if PyData.eqv x (.str (Str.ofString "here")) then .int n else x
noncomputable def rgRow (ks : List Str) (mN : Nat) (wd : Str) (rest : List PyData) : PyData := .tuple ((.str wd :: rest).map (hereD ((rg0 ks mN).length + 1)))
noncomputable def rgGood (taken : Option Int) (many : Int) (ks shut : List Str) : Bool := match taken with
  | none => false
  | some k => decide (k ≤ many) && decide (shut = ks.reverse)
noncomputable def rgRest (taken : Option Int) (many i2 : Int) (good : Bool) : Int := match taken with
  | none => 0
  | some k => if good then many - k + i2 else 0
noncomputable def rg2 (ks shut : List Str) (mN : Nat) (wd : Str) (rest : List PyData) (rN : Nat) : List PyData :=
  (rg0 ks mN ++ [rgRow ks mN wd rest]) ++ (if wd == Str.ofString "accept" then [oneD (Str.ofString "endaccept")] else []) ++ List.replicate rN (oneD (Str.ofString "drop")) ++ shut.map fun k => oneD (Str.ofString "end" ++ k)
noncomputable def rg3 (ks shut : List Str) (mN : Nat) (wd : Str) (rest : List PyData) (rN : Nat) (last : Str) : List PyData :=
  rg2 ks shut mN wd rest rN ++ (if last == Str.ofString "endvalue" then [constD 0] else []) ++ [oneD last]

theorem flat_one {α : Type} {x : α} {n : Nat} : (List.replicate n [x]).flatten = List.replicate n x := by
  induction n with
  | zero => rfl
  | succ n ih => rw [List.replicate_succ, List.flatten_cons, ih]; rfl
theorem filter_all {α : Type} {n : Nat} {val : Nat → α} : ((List.range n).filter fun _ => true).map val = (List.range n).map val := by rw [List.filter_eq_self.mpr (fun _ _ => rfl)]
theorem range_map {α β : Type} {xs : List α} {d : α} {f : α → β} : (List.range xs.length).map (fun i => f (xs.getD i d)) = xs.map f := by
  refine List.ext_getElem? fun k => ?_
  rw [List.getElem?_map, List.getElem?_map]
  by_cases hk : k < xs.length
  · rw [List.getElem?_range hk, List.getElem?_eq_getElem hk]
    simp [List.getElem?_eq_getElem hk]
  · rw [List.getElem?_eq_none (by simp; omega), List.getElem?_eq_none (by omega)]; rfl
theorem pK_getD {ks : List Str} {i : Nat} (h : i < ks.length) : (pK ks).getD i .none = .str (ks.getD i default) := by
  rw [List.getD_eq_getElem?_getD, List.getD_eq_getElem?_getD, List.getElem?_map, List.getElem?_eq_getElem h]; rfl

theorem depth_strl {ks : List Str} : (PyData.list (pK ks)).depth ≤ 1 := by
  have := depth_strs (ks := ks)
  simp only [PyData.depth] at this ⊢
  omega
theorem eqv_lists {xs ys : List Str} : PyData.eqv (.list (pK xs)) (.list (pK ys)) = decide (xs = ys) := by
  have := eqv_strs (xs := xs) (ys := ys)
  simp only [PyData.eqv]
  exact this

theorem kd_short (z : Int) : (Str.ofString "end").length + (kd z).length ≤ 10000 := by
  unfold kd
  split
  · decide
  · split <;> decide
theorem lastS_lay (k : Int) : (PyData.str (lastS k)).canLay0 = true := by
  unfold lastS
  split
  · exact lay_lit "endsub"
  · split
    · exact lay_lit "endbody"
    · split
      · exact lay_lit "endentry"
      · split
        · exact lay_lit "enddecls"
        · exact lay_lit "endvalue"
theorem ev_add0 {l r : Expr} {pos : Pos} {s1 : Slot} {xs ys : List PyData} (ok : c.Ok G lev) (l1 : Lst oc s1 xs) (h1 : Ev G c oc ml l s1 oc) (h2 : Ev G c oc ml r (.d (.list ys)) oc) (hsz : xs.length + ys.length ≤ 10000) : Ev G c oc ml (.BinOp l .Add r pos) (.d (.list (xs ++ ys))) oc :=
  EvO.ev (evo_add ok h1 h2 l1 (.inl rfl) hsz)
set_option maxHeartbeats 3200000 in
theorem law_right_c (I : G.Is) (ok : c.Ok G (lev + 6)) (hout : c.outer = []) {u : Addr} {ns : List Int} {t : Int} {WS : List Word} {wd n1 n2 ps : Str} {hasL : Bool} {rest : List PyData} {nums flags : List Int} {i1 i2 : Int} {mN rN : Nat} {t2 t3 : Int} {ks shut : List Str} {rowsD : List RowD} {pj : Option Nat} {good : Bool}
    (h0 : 0 ≤ t) (hb : t ≤ 80000) (hl : ns.length ≤ 100) (hws : 0 < WS.length) (hws2 : WS.length ≤ 100)
    (hw : WS[(cellV ns (t + 1) (WS.length : Nat)).toNat]? = some (wd, n1, n2, ps)) (hm : (2 + cellV ns t 4) = (mN : Int))
    (hi1 : PySem.intText? n1 = some i1) (hi1l : n1.length ≤ 640) (hi2 : PySem.intText? n2 = some i2) (hi2l : n2.length ≤ 640)
    (hL : (!(Builtin.Str.occurrences ps (Str.ofString "l") 0 ps.length 1).isEmpty) = hasL)
    (hlast : ∀ i : Nat, ps.cps[i]? = some 110 → hasL = true → ∃ r zs, (rowN ns hasL (.str wd) (.str (Str.ofString "here")) ps (t + 1 + 1) i).1 = r ++ [.list zs] ∧ zs.length ≤ 100)
    (hrow : rowN ns hasL (.str wd) (.str (Str.ofString "here")) ps (t + 1 + 1) ps.cps.size = (.str wd :: rest, t2)) (T : Tk wd ps rest nums flags)
    (hnest : nestV ns t2 = (ks, shut, t3)) (hgood : rgGood (takenV wd ps rest nums flags i1) mN ks shut = good) (hrest : rgRest (takenV wd ps rest nums flags i1) mN i2 good = (rN : Int)) (hrN : rN ≤ 1000)
    (hrows : rowsD.map RowD.data = rg3 ks shut mN wd rest rN (lastS (cellV ns t3 5))) (P : Prog G rowsD pj) (hshut : shut.length ≤ 10) (hks : ks.length ≤ 2) (hmN : mN ≤ 10) (ht3 : 0 ≤ t3 ∧ t3 ≤ 90000) (hkk : ∀ k ∈ ks, ∃ z, k = kd z) (hss : ∀ k ∈ shut, ∃ z, k = kd z) :
    Cal G c ((u, .urn ns t) :: post) ml (.ref 304) [.urn u, .d (.list (WS.map wordD))] (.d (.bool (if codeBad rowsD then !good else good && (gmA rowsD rowsD.length == (if (rN : Int) > mN then (rN : Int) else mN))))) ((u, .urn ns (t3 + 1)) :: post) := by
  refine cal_defCT (lev := lev + 5) (names := [Str.ofString "urn", Str.ofString "words"]) ok hout (by rw [I.K]; rfl) (by rw [I.K]; rfl) ?_ (by decide) rfl ?_ (by decide) (raw_swap (pre := []) fun _ h => nomatch h) ?_
  · intro s vs hl
    match vs, hl with
    | [v1, v2], _ => exact BindsTo.of_eq rfl
  · intro x hx
    rcases List.mem_cons.mp hx with rfl | hx
    · exact .inl rfl
    · rw [List.mem_singleton.mp hx]; exact .inl rfl
  · intro fz g L' cells cm ok' Y
    have okk := ok'.toOk
    obtain ⟨o, rfl, d1⟩ := CellsAre.one Y
    have hti : (cellV ns (t + 1) (WS.length : Nat)).toNat < (WS.map wordD).length := by
      have := (List.getElem?_eq_some_iff.mp hw).1
      rw [List.length_map]; exact this
    have hps := T.sz
    have hrt := rowN_t (ns := ns) (hasL := hasL) (word := .str wd) (place := .str (Str.ofString "here")) (ps := ps) (t := t + 1 + 1) ps.cps.size
    rw [hrow] at hrt
    have hrt1 : t + 1 + 1 ≤ t2 := hrt.1
    have hrt2 : t2 ≤ t + 1 + 1 + ps.cps.size := hrt.2
    refine ext_cons (sx_assign ok' (ev_bin ev_int (ev_cell (u := u) (t := t) (pre := [(L' + 1, Cell.raw o)]) (post := post) I okk (by rfl) (by walk_at "mlk") ev_int h0 (by omega) hl (by decide)) b_add) (by rfl)) ?_
    rw [hm]
    refine ext_cons (sx_assign ok' (ev_sub (ev_name (by assumption) (by walk_at "mlk")) (ev_cell (u := u) (t := t + 1) (many := (WS.length : Nat)) (pre := [(L' + 1, Cell.raw o)]) (post := post) I okk (by rfl) (by walk_at "mlk") (ev_eq (ev_callb (ev_builtin okk (n_len I) (by rfl) (by decide) (by rfl)) (evl_cons (ev_name (by assumption) (by walk_at "mlk")) evl_nil) (k_len_lst okk (.inl rfl) (by rw [List.length_map]; omega))) (by rw [List.length_map])) (by omega) (by omega) hl (by omega)) (s_list okk (.inl rfl) (cellV_lo (by omega)) (by have := cellV_hi (ns := ns) (t := t + 1) (many := (WS.length : Nat)) (by omega); omega) (x := wordD (wd, n1, n2, ps)) (by rw [List.getElem?_map, hw]; rfl))) (by rfl)) ?_
    refine ext_weak (ml' := [(Str.ofString "urn", .urn u), (Str.ofString "many", .d (.int mN)), (Str.ofString "told", .d (wordD (wd, n1, n2, ps)))]) (by walk_at "mls") ?_
    have hcr := law_row_c (lev := lev + 3) (c := c.callee fz g L' _) (ml := [(Str.ofString "urn", .urn u), (Str.ofString "many", .d (.int mN)), (Str.ofString "told", .d (wordD (wd, n1, n2, ps)))]) (pre := [(L' + 1, Cell.raw o)]) (post := post) (u := u) (ns := ns) (t := t + 1 + 1) (word := .str wd) (place := .str (Str.ofString "here")) (ps := ps) I okk (by omega) (by omega) hl hps T.asc hL hlast
    rw [hrow] at hcr
    refine ext_cons (sx_assign ok' (ev_callK okk (ev_global okk (g__law_row I) (by rfl)) (kp_287 I) (evl_cons (ev_name (by assumption) (by walk_at "mlk")) (evl_cons (ev_sub (ev_name (by assumption) (by walk_at "mlk")) ev_int (s_list okk (.inl rfl) (by decide) (by decide) (by rfl))) (evl_cons (ev_sub (ev_name (by assumption) (by walk_at "mlk")) ev_int (s_list okk (.inl rfl) (by decide) (by decide) (by rfl))) (evl_cons ev_str evl_nil)))) hcr) (by rfl)) ?_
    have hcn := law_nest_c (lev := lev + 3) (c := c.callee fz g L' _) (ml := updm (Str.ofString "row") (.d (.tuple (.str wd :: rest))) [(Str.ofString "urn", .urn u), (Str.ofString "many", .d (.int mN)), (Str.ofString "told", .d (wordD (wd, n1, n2, ps)))]) (pre := [(L' + 1, Cell.raw o)]) (post := post) (u := u) (ns := ns) (t := t2) I okk (by omega) (by omega) hl
    rw [hnest] at hcn
    refine ext_cons (sx_assign_tup (ev_callK okk (ev_global okk (g__law_nest I) (by rfl)) (kp_299 I) (evl_cons (ev_name (by assumption) (by walk_at "mlk")) evl_nil) hcn) (tgt_tup okk (tgtl_cons (tgt_name ok' (by rfl)) (tgtl_cons (tgt_name ok' (by rfl)) tgtl_nil)))) ?_
    refine ext_cons (sx_assign ok' (ev_sub (ev_globalD okk (g__law_lasts I) (d_lasts I) (by rfl)) (ev_cell (u := u) (t := t3) (pre := [(L' + 1, Cell.raw o)]) (post := post) I okk (by rfl) (by walk_at "mlk") ev_int (by omega) (by omega) hl (by decide)) (s_tup okk (cellV_lo (by decide)) (by have := cellV_hi (ns := ns) (t := t3) (many := 5) (by decide); omega) (last_at ns t3))) (by rfl)) ?_
    refine ext_weak (ml' := [(Str.ofString "many", .d (.int mN)), (Str.ofString "told", .d (wordD (wd, n1, n2, ps))), (Str.ofString "row", .d (.tuple (.str wd :: rest))), (Str.ofString "kinds", .d (.list (pK ks))), (Str.ofString "shut", .d (.list (pK shut))), (Str.ofString "last", .d (.str (lastS (cellV ns t3 5))))]) (by walk_at "mls") ?_
    have hev0 : True := trivial
    refine ext_own_cell (ds := rg0 ks mN) (pre := []) (post := (u, .urn ns (t3 + 1)) :: post) (a := L' + 1) (o := o) ok' ?rows0 (by rfl) (by rfl) d1 (fun b o1 v1 dd1 => ?_)
    case rows0 =>
      obtain ⟨es, n, hlk, hkl⟩ := topD268 I
      refine evo_add (xs := ks.map openD) (ys := List.replicate mN (constD 1)) okk (ev_eq (ev_listcomp (mlc := []) (keep := fun _ => true) (val := fun i => openD (ks.getD i default)) ok' (ite_list okk (ev_name (by assumption) (by walk_at "mlk"))) (by rfl) seen_nil (by rw [List.length_map]; omega) (fun C tl i hi okc => ⟨.inl ⟨rfl, rfl⟩, fun _ => ?_⟩)) ?_)
        (ev_eq (EvO.ev (evo_mul (n := mN) okk (evo_list (evd_cons (ev_tuple (evd_cons ev_str (evd_cons ev_int evd_nil))) evd_nil)) (fun oc' => (ev_name (by assumption) (by walk_at "mlk"))) (by simp) (by simp; omega) (by omega))) ?_) (.inl rfl) (.inl rfl) (by rw [List.length_map, List.length_replicate]; omega)
      · have hi' : i < ks.length := by simpa using hi
        have hmem : ks.getD i default ∈ ks := by rw [List.getD_eq_getElem?_getD, List.getElem?_eq_getElem hi']; exact List.getElem_mem hi'
        obtain ⟨z, hz⟩ := hkk _ hmem
        obtain ⟨v, hv, rv⟩ := opens I z
        rw [hz]
        exact ev_sub (ev_global okc (g__law_opens I) (by rfl)) (ev_eq (ev_name (by assumption) (by walk_at "mlk")) (by rw [pK_getD hi', hz])) (s_top okc hlk hkl hv rv)
      · rw [List.length_map, filter_all, range_map]
      · exact congrArg (fun x => Slot.d (.list x)) flat_one
    have h0l : (rg0 ks mN).length ≤ 20 := by simp [rg0]; omega
    have hrlen : (PyData.str wd :: rest).length ≤ 11 := by rw [List.length_cons, T.len]; omega
    obtain ⟨hwl, hal⟩ := lay_wd T.lay
    refine ext_cons (sx_expr (ev_append (pre := []) (d := rgRow ks mN wd rest) okk (by walk_at "mlk") (.head _) (ev_callt (ev_builtin okk (n_tuple I) (by rfl) (by decide) (by rfl)) (evl_cons (ev_listcomp (mlc := [(Str.ofString "rows", .own b)]) (keep := fun _ => true) (val := fun i => hereD ((rg0 ks mN).length + 1) ((PyData.str wd :: rest).getD i .none)) ok' (ite_tup okk (ev_name (by assumption) (by walk_at "mlk"))) (by rfl) (seen_cons (by walk_at "mlk") (by rfl) (fun C => .inl (by rfl)) (by rfl) seen_nil) (by omega) (fun C tl i hi okc => ⟨.inl ⟨rfl, rfl⟩, fun _ => ?here⟩)) evl_nil) (by rw [filter_all, range_map]; exact k_tuple okk (.inl rfl) (by rw [List.length_map]; omega))) (by omega))) ?_
    case here =>
      have hxl : ((PyData.str wd :: rest).getD i .none).canLay0 = true := by
        have hi' : i < (PyData.str wd :: rest).length := hi
        have : (PyData.str wd :: rest)[i] ∈ (PyData.str wd :: rest) := List.getElem_mem hi'
        rw [List.getD_eq_getElem?_getD, List.getElem?_eq_getElem hi']
        exact PyData.canLay0_of_mem _ _ hal this
      unfold hereD
      cases hq : PyData.eqv ((PyData.str wd :: rest).getD i .none) (.str (Str.ofString "here")) with
      | true => exact ev_if_t (tr_eq (tr_cmp (ev_name (by assumption) (by walk_at "mlk")) ev_str (c_eq okc hxl (lay_lit "here") depth_str)) hq) (ev_bin (ev_callb (ev_builtin okc (n_len I) (by rfl) (by decide) (by rfl)) (evl_cons (ev_name (by assumption) (by walk_at "mlk")) evl_nil) (k_len_lst okc (.inr ⟨b, rfl, .inl (.head _)⟩) (by omega))) ev_int b_add)
      | false => exact ev_if_f (tr_eq (tr_cmp (ev_name (by assumption) (by walk_at "mlk")) ev_str (c_eq okc hxl (lay_lit "here") depth_str)) hq) (ev_name (by assumption) (by walk_at "mlk"))
    refine ext_cons (sx_assign ok' (ev_callK okk (ev_global okk (g__law_taken I) (by rfl)) (kp_292 I) (evl_cons (ev_name (by assumption) (by walk_at "mlk")) (evl_cons (ev_sub (ev_name (by assumption) (by walk_at "mlk")) ev_int (s_list okk (.inl rfl) (by decide) (by decide) (by rfl))) (evl_cons (ev_callt (ev_builtin okk (n_int I) (by rfl) (by decide) (by rfl)) (evl_cons (ev_sub (ev_name (by assumption) (by walk_at "mlk")) ev_int (s_list okk (.inl rfl) (by decide) (by decide) (by rfl))) evl_nil) (k_int hi1 hi1l)) evl_nil))) (law_taken_c (lev := lev + 4) I okk T)) (by rfl)) ?_
    generalize htk : takenV wd ps rest nums flags i1 = tk at hgood hrest
    have hmk : ∀ k : Int, (decide (k ≤ (mN : Int))) = decide (k ≤ (mN : Int)) := fun _ => rfl
    refine ext_cons (oc1 := (b, Cell.lst (rg0 ks mN ++ [rgRow ks mN wd rest])) :: ((L' + 1, Cell.raw o1) :: (u, Cell.urn ns (t3 + 1)) :: post)) (sx_assign (sl := .d (.bool good)) ok' ?isgood (by rfl)) ?_
    case isgood =>
      cases tk with
      | none =>
        have hg0 : good = false := by rw [← hgood]; rfl
        rw [hg0]
        exact ev_and_f (ev_cmp (ev_name (by assumption) (by walk_at "mlk")) ev_none c_isnot_none)
      | some k =>
        refine ev_and_t (ev_cmp (ev_name (by assumption) (by walk_at "mlk")) ev_none c_isnot_none) ?_
        have hg : good = (decide (k ≤ (mN : Int)) && decide (shut = ks.reverse)) := by rw [← hgood]; rfl
        by_cases hk : k ≤ (mN : Int)
        · refine ev_and_t (ev_eq (ev_cmp (ev_name (by assumption) (by walk_at "mlk")) (ev_name (by assumption) (by walk_at "mlk")) c_le) (by rw [decide_eq_true hk])) ?_
          refine ev_and_one (ev_eq (ev_cmp (ev_name (by assumption) (by walk_at "mlk")) (ev_eq (EvO.ev (evo_slice okk (ev_name (by assumption) (by walk_at "mlk")) (ev_slice pte_none pte_none (pte_some (ev_neg ev_int))) (.inl rfl) (by decide) (by rw [List.length_map]; omega))) (by rw [rev2 (by rw [List.length_map]; omega), ← List.map_reverse])) (c_eq okk (lay_pKl fun x hx => by obtain ⟨z, rfl⟩ := hss x hx; exact kd_lay z) (lay_pKl fun x hx => by obtain ⟨z, rfl⟩ := hkk x (List.mem_reverse.mp hx); exact kd_lay z) (by have := depth_strl (ks := shut); omega))) ?_)
          rw [eqv_lists, hg, decide_eq_true hk]; rfl
        · have hg0 : good = false := by rw [hg, decide_eq_false hk]; rfl
          rw [hg0]
          exact ev_and_f (ev_eq (ev_cmp (ev_name (by assumption) (by walk_at "mlk")) (ev_name (by assumption) (by walk_at "mlk")) c_le) (by rw [decide_eq_false hk]))
    have hgb : good = true → ∃ k, tk = some k ∧ (mN : Int) - k + i2 = (rN : Int) := fun hg => by
      cases tk with
      | none => rw [← hgood] at hg; cases hg
      | some k => exact ⟨k, rfl, by rw [← hrest, hg]; rfl⟩
    have hgf : good = false → (0 : Int) = (rN : Int) := fun hg => by
      rw [← hrest, hg]; cases tk <;> rfl
    refine ext_cons (oc1 := (b, Cell.lst (rg0 ks mN ++ [rgRow ks mN wd rest])) :: ((L' + 1, Cell.raw o1) :: (u, Cell.urn ns (t3 + 1)) :: post)) (sx_assign (sl := .d (.int (rN : Int))) ok' ?isrest (by rfl)) ?_
    case isrest =>
      cases hg : good with
      | false => exact ev_if_f (tr_ev (ev_name (by assumption) (by walk_at "mlk"))) (ev_eq ev_int (by rw [hgf hg]))
      | true =>
        obtain ⟨k, rfl, hk⟩ := hgb hg
        exact ev_if_t (tr_ev (ev_name (by assumption) (by walk_at "mlk"))) (ev_eq (ev_bin (ev_bin (ev_name (by assumption) (by walk_at "mlk")) (ev_name (by assumption) (by walk_at "mlk")) b_sub) (ev_callt (ev_builtin okk (n_int I) (by rfl) (by decide) (by rfl)) (evl_cons (ev_sub (ev_name (by assumption) (by walk_at "mlk")) ev_int (s_list okk (.inl rfl) (by decide) (by decide) (by rfl))) evl_nil) (k_int hi2 hi2l)) b_add) (by rw [hk]))
    have hrl0 : (rg0 ks mN ++ [rgRow ks mN wd rest]).length ≤ 30 := by rw [List.length_append]; simp; omega
    refine ext_assign_cell (sl := .d (.list (rg2 ks shut mN wd rest rN))) (pre := [(b, Cell.lst (rg0 ks mN ++ [rgRow ks mN wd rest]))]) (post := (u, Cell.urn ns (t3 + 1)) :: post) (a := L' + 1) (o := o1) ok' ?rows2 (by rfl) (by rfl) dd1 (fun o2 v2 dd2 => ?_)
    case rows2 =>
      refine ev_add0 okk (.inl rfl) (ev_add0 okk (.inl rfl) (ev_add0 okk (.inr ⟨b, rfl, .inl (.head _)⟩) (ev_name (by assumption) (by walk_at "mlk")) ?acc ?s1) ?drop ?s2) ?ends ?s3
      case acc =>
        cases hwa : (wd == Str.ofString "accept") with
        | true => exact ev_if_t (tr_eq (tr_cmp (ev_sub (ev_name (by assumption) (by walk_at "mlk")) ev_int (s_tup okk (by decide) (by decide) (by rfl))) ev_str (c_eqS okk hwl (lay_lit "accept"))) hwa) (ev_list (evd_cons (ev_tuple (evd_cons ev_str evd_nil)) evd_nil))
        | false => exact ev_if_f (tr_eq (tr_cmp (ev_sub (ev_name (by assumption) (by walk_at "mlk")) ev_int (s_tup okk (by decide) (by decide) (by rfl))) ev_str (c_eqS okk hwl (lay_lit "accept"))) hwa) (ev_list evd_nil)
      case drop =>
        exact ev_eq (EvO.ev (evo_mul (n := rN) okk (evo_list (evd_cons (ev_tuple (evd_cons ev_str evd_nil)) evd_nil)) (fun oc' => (ev_name (by assumption) (by walk_at "mlk"))) (by simp) (by simp; omega) (by omega))) (congrArg (fun x => Slot.d (.list x)) flat_one)
      case ends =>
        refine ev_eq (ev_listcomp (mlc := []) (keep := fun _ => true) (val := fun i => (fun k => oneD (Str.ofString "end" ++ k)) (shut.getD i default)) ok' (ite_list okk (ev_name (by assumption) (by walk_at "mlk"))) (by rfl) seen_nil (by rw [List.length_map]; omega) (fun C tl i hi okc => ⟨.inl ⟨rfl, rfl⟩, fun _ => ?_⟩)) ?_
        · have hi' : i < shut.length := by simpa using hi
          have hmem : shut.getD i default ∈ shut := by rw [List.getD_eq_getElem?_getD, List.getElem?_eq_getElem hi']; exact List.getElem_mem hi'
          obtain ⟨z, hz⟩ := hss _ hmem
          refine ev_tuple (evd_cons (ev_bin ev_str (ev_eq (ev_name (by assumption) (by walk_at "mlk")) (by rw [pK_getD hi'])) (b_add_str ?_)) evd_nil)
          rw [hz]; exact kd_short z
        · rw [List.length_map, filter_all]
          exact congrArg (fun x => Slot.d (.list x)) (range_map (f := fun k => oneD (Str.ofString "end" ++ k)))
      case s1 =>
        have : (if wd == Str.ofString "accept" then [oneD (Str.ofString "endaccept")] else []).length ≤ 1 := by split <;> simp
        omega
      case s2 =>
        have : (if wd == Str.ofString "accept" then [oneD (Str.ofString "endaccept")] else []).length ≤ 1 := by split <;> simp
        rw [List.length_append, List.length_replicate]; omega
      case s3 =>
        have : (if wd == Str.ofString "accept" then [oneD (Str.ofString "endaccept")] else []).length ≤ 1 := by split <;> simp
        rw [List.length_append, List.length_append, List.length_replicate, List.length_map]; omega
    have hl2 : (rg2 ks shut mN wd rest rN).length ≤ 2000 := by
      have : (if wd == Str.ofString "accept" then [oneD (Str.ofString "endaccept")] else []).length ≤ 1 := by split <;> simp
      unfold rg2
      rw [List.length_append, List.length_append, List.length_append, List.length_replicate, List.length_map]; omega
    refine ext_assign_cell (sl := .d (.list (rg3 ks shut mN wd rest rN (lastS (cellV ns t3 5))))) (pre := [(b, Cell.lst (rg0 ks mN ++ [rgRow ks mN wd rest]))]) (post := (u, Cell.urn ns (t3 + 1)) :: post) (a := L' + 1) (o := o2) ok' ?rows3 (by rfl) (by rfl) dd2 (fun o3 v3 dd3 => ?_)
    case rows3 =>
      refine ev_add0 okk (.inl rfl) (ev_add0 okk (.inl rfl) (ev_name (by assumption) (by walk_at "mlk")) ?zero ?s1) (ev_list (evd_cons (ev_tuple (evd_cons (ev_name (by assumption) (by walk_at "mlk")) evd_nil)) evd_nil)) ?s2
      case zero =>
        cases hwa : (lastS (cellV ns t3 5) == Str.ofString "endvalue") with
        | true => exact ev_if_t (tr_eq (tr_cmp (ev_name (by assumption) (by walk_at "mlk")) ev_str (c_eqS okk (lastS_lay _) (lay_lit "endvalue"))) hwa) (ev_list (evd_cons (ev_tuple (evd_cons ev_str (evd_cons ev_int evd_nil))) evd_nil))
        | false => exact ev_if_f (tr_eq (tr_cmp (ev_name (by assumption) (by walk_at "mlk")) ev_str (c_eqS okk (lastS_lay _) (lay_lit "endvalue"))) hwa) (ev_list evd_nil)
      case s1 =>
        have : (if lastS (cellV ns t3 5) == Str.ofString "endvalue" then [constD 0] else []).length ≤ 1 := by split <;> simp
        omega
      case s2 =>
        have : (if lastS (cellV ns t3 5) == Str.ofString "endvalue" then [constD 0] else []).length ≤ 1 := by split <;> simp
        rw [List.length_append]
        show _ + 1 ≤ 10000
        omega
    refine ext_cons (oc1 := [(b, Cell.lst (rg0 ks mN ++ [rgRow ks mN wd rest])), (L' + 1, Cell.raw o3)] ++ (u, Cell.urn ns (t3 + 1)) :: post) (sx_assign (sl := .code (rowsD.map RowD.data)) ok' (ev_eq (ev_callK okk (ev_global okk (g_Code I) (by rfl)) (kp_158 I) (evl_cons (ev_name (by assumption) (by walk_at "mlk")) (evl_cons ev_none (evl_cons (ev_list evd_nil) evl_nil))) (k_code I okk)) (by rw [hrows])) (by rfl)) ?_
    refine ext_weak (ml' := [(Str.ofString "many", .d (.int mN)), (Str.ofString "is_good", .d (.bool good)), (Str.ofString "rest", .d (.int (rN : Int))), (Str.ofString "code", .code (rowsD.map RowD.data))]) (by walk_at "mls") ?_
    refine ext_try (x := Str.ofString "is_good") (bad := codeBad rowsD) (b := good) I ok' (ev_global okk (g_check_code I) (by rfl)) (kp_259 I) (evl_cons (ev_name (by assumption) (by walk_at "mlk")) evl_nil) (check_code_c (lev := lev) I okk P) (by walk_at "mlk") (by rfl) (by rfl) (fun hbad => ?_) (fun hbad => by rw [hbad]; rfl)
    have hall : allOk rowsD = true := by
      unfold codeBad at hbad
      rw [Bool.or_eq_false_iff] at hbad
      simpa using hbad.2
    refine ext_ex (ex_ret_drop (pre := [(b, Cell.lst (rg0 ks mN ++ [rgRow ks mN wd rest])), (L' + 1, Cell.raw o3)]) ok' (ex_ret (oc1 := [(b, Cell.lst (rg0 ks mN ++ [rgRow ks mN wd rest])), (L' + 1, Cell.raw o3)] ++ (u, Cell.urn ns (t3 + 1)) :: post) (sx_return ?_)))
    rw [hbad]
    cases good with
    | false => exact ev_and_f (ev_name (by assumption) (by walk_at "mlk"))
    | true =>
      refine ev_and_t (ev_name (by assumption) (by walk_at "mlk")) (ev_and_one (ev_eq (ev_cmp (ev_callK okk (ev_global okk (g_greatest_height I) (by rfl)) (kp_266 I) (evl_cons (ev_name (by assumption) (by walk_at "mlk")) evl_nil) (greatest_height_c (lev := lev) I okk P hall)) (ev_callb (ev_builtin okk (n_max I) (by rfl) (by decide) (by rfl)) (evl_cons (ev_name (by assumption) (by walk_at "mlk")) (evl_cons (ev_name (by assumption) (by walk_at "mlk")) evl_nil)) (k_max okk)) (c_eqI okk)) ?_))
      simp
end
end Mine
end
section
open PySem PySem.W PyProof.Rows PySem.Calls PySem.Spec
set_option maxRecDepth 100000
namespace Mine
section
variable {G : Glo} {c : Cx} {oc oc1 oc2 oc3 oc' pre post : List (Addr × Cell)} {ml ml1 ml2 ml' mlc : List (Str × Slot)} {tm : List (Value × Slot)} {h h' : Heap} {m : Str → Option Value} {own fz : Led} {lev : Nat} {out : Out}

theorem rvs_strs {H0 : Heap} {fz : Led} : ∀ {l : List (Str × Tok)}, RVs H0 fz (strValues l) ((l.map (·.1)).map PyData.str)
  | [] => .nil
  | p :: l => .cons (RV.str _ _) rvs_strs
/-- x.split(y) -/
theorem evo_split {e1 e2 : Expr} {apos pos : Pos} {x y : Str} {pl : Sem Bool} (ok : c.Ok G lev) (h1 : Ev G c oc ml e1 (.d (.str x)) oc1) (h2 : Ev G c oc1 ml e2 (.d (.str y)) oc2) (hy : (y.length == 0) = false) (hsz : x.length ≤ 10000)
    (he : eval (.Call (.Attribute e1 (Str.ofString "split") apos) [e2] [] pos) c.env = (do
      let ov ← eval e1 c.env
      standAt apos.atName
      let (f, first) ← holding [ov] (getMethod ov (Str.ofString "split") pl)
      callWith pos f first (backTo pos (starEach [e2] c.env)) []) := by rfl)
    (hst : starEach [e2] c.env = [(false, eval e2 c.env)] := by rfl) : EvO G c oc ml (.Call (.Attribute e1 (Str.ofString "split") apos) [e2] [] pos) ((Txt.split x y).map .str) oc2 := by
  intro tm s Q E S k
  refine MethodCall_ (h1 tm s _ E S fun v g t S1 => ?_) he
  have S1' := S1
  obtain ⟨m, own, fz, S1⟩ := S1
  obtain ⟨tk, rfl⟩ := rv_str (S1.tmp _ (.head _))
  refine getMethod_builtin (typeIs_str _ _ _) PySem.F.plainAttrs_str PySem.F.slot_str_split PySem.F.type_str_split (fun b e => nomatch e) ?_
  rw [hst]
  show wpAny _ _ (callWith pos (.builtin "str.split") [.str x tk] [(false, eval e2 c.env)] []) Q E _
  refine Calls.callWith_builtin rfl (Calls.evalArgs_plain (Calls.spliced_cons (wpAny_mono (h2 _ _ _ E S1' fun v g2 t2 S2 => ?_) (fun _ _ h₁ => Calls.spliced_nil h₁) fun _ _ e => e)))
  obtain ⟨m2, own2, fz2, S2⟩ := S2
  obtain ⟨tk2, rfl⟩ := rv_str (S2.tmp _ (.head _))
  refine splitN1 S2.F S2.N hy (fun l h' k' hl F' N' => ?_) (by rw [sizeLine_eq]; omega)
  have r : RVs G.H0 fz2 (strValues l) ((Txt.split x y).map .str) := hl ▸ rvs_strs
  exact k _ h' k' (St0.newList (nn := 0) (S2.tms fun x hx => .tail _ (.tail _ hx)) F' N' (size_none _) r)

/-- {'script': .., 'turn': ..} under a name -/
theorem ex_assign_urn {x : Str} {p pos dpos p1 p2 : Pos} {k1 k2 : Nat} {e1 e2 : Expr} {rest : List Stmt} {ns : List Int} {t : Int} (ok : c.FOk G lev) (hx : c.env.kindOf x = some .local) (h1 : ∀ oc, Ev G c oc ml e1 (.d (.list (ns.map .int))) oc) (h2 : ∀ oc, Ev G c oc ml e2 (.d (.int t)) oc)
    (h3 : ∀ u, Ex G c [(u, .urn ns t)] (updm x (.urn u) ml) rest out) (hs : swapsWith (.Dict [some (.Constant (.str (Str.ofString "script")) k1 p1), some (.Constant (.str (Str.ofString "turn")) k2 p2)] [e1, e2] dpos) (some (.Name x p)) pos.line c.env = pure false := by rfl) :
    Ex G c [] ml (.Assign [.Name x p] (.Dict [some (.Constant (.str (Str.ofString "script")) k1 p1), some (.Constant (.str (Str.ofString "turn")) k2 p2)] [e1, e2] dpos) pos :: rest) out := by
  intro tm s Q E hE S k
  obtain ⟨m, own, fz, S⟩ := S
  refine wpAny_execs_cons (wpAny_Assign_Name (wpAny_Dict_walk (knd := strKind G.prog G.w) (by rfl) (by rfl) (by simp) (by show 2 ≤ 15; decide) ?_) hs)
  obtain ⟨own1, S1⟩ := S.newCell { cls := .type "dict", data := .dict #[] }
  refine evalPairs_cons (wpAny_Constant_str ?_)
  refine wpAny_bind (h1 _ _ { s with heap := s.heap.push { cls := .type "dict", data := .dict #[] }, toks := s.toks + 1 } _ E ⟨m, own1, fz, S1⟩ fun v1 g1 t1 S2 => wpAny_bind (wpAny_standAt (wpAny_pure ?_)))
  refine evalPairs_cons (wpAny_Constant_str ?_)
  refine wpAny_bind (h2 _ _ { s with heap := g1, toks := t1 + 1 } _ E S2 fun v2 g2 t2 S3 => wpAny_bind (wpAny_standAt (wpAny_pure ?_)))
  refine evalPairs_nil ?_
  obtain ⟨m3, own3, fz3, S3⟩ := S3
  obtain ⟨tk2, rfl⟩ := rv_int (S3.tmp _ (.head _))
  have rv1 := S3.tmp _ (.tail _ (.head _))
  have hne : s.heap.objs.size ≠ c.L := fun e => by
    obtain ⟨o', ho', _⟩ := owns_mem S3.O (List.mem_append_right [] (.head _))
    exact (S3.N _ (List.mem_append_left _ ho')).2.1 e
  have hcell := S3.setV (pre := []) (post := []) (a := s.heap.objs.size) (cl := .raw { cls := .type "dict", data := .dict #[] }) (fun el hel y hy v hv => ?_)
  · obtain ⟨o, ho, rfl, kset⟩ := hcell
    refine ⟨[(Str.ofString "script", v1), (Str.ofString "turn", .int t tk2)], ⟨strKind_is _ _ _ _, rfl, strKind_is _ _ _ _, rfl, trivial⟩, ?_, fun h' hd' hs' => ?_⟩
    · obtain ⟨o2, es, ep, ho2, r2⟩ := Heap.DictOf.new (knd := strKind G.prog G.w) s.heap
      have e2 : o2 = { cls := .type "dict", data := .dict #[] } := by
        rw [Heap.get?_push_size _ rfl] at ho2
        exact (Option.some.inj ho2).symm
      exact ⟨o2, es, ep, by rw [e2]; exact ho, r2⟩
    · obtain ⟨o', ho', hd'⟩ := Heap.dictOf_iff.mp hd'
      obtain ⟨own4, S4⟩ := kset (.urn ns t) h' o' (fun b ob hb e => hs'.extBut b ob hb e) ho' ⟨v1, tk2, hd', rv1⟩
      have S5 : St0 G c [(s.heap.objs.size, .urn ns t)] ml ((.ref s.heap.objs.size, .urn s.heap.objs.size) :: tm) h' m3 own4 fz3 := S4.put (fun x hx => .tail _ (.tail _ hx)) rfl
      exact store_local ok hx ⟨m3, own4, fz3, S5⟩ fun h6 tk6 S6 => h3 _ tm _ Q E hE S6 k
  · have hel' : el.1 = c.env := by
      rcases List.mem_cons.mp hel with rfl | hel
      · rfl
      · rw [List.mem_singleton.mp hel]; exact ok.same.symm
    rcases hv with hv | ⟨hk, oC, m2, hm, hn, hv⟩ | ⟨hk, b, o, hl, hm, hd⟩
    · exact .inl hv
    · exfalso
      rcases List.mem_cons.mp hm with e | e
      · have e1 : el.1.locals = s.heap.objs.size := (Prod.mk.inj e).1
        rw [hel', ok.same, ok.locs] at e1
        exact hne e1.symm
      · cases e
    · exfalso
      rcases List.mem_cons.mp hm with e | e
      · have e2 := (Prod.mk.inj e).2
        injection e2 with e2
        rw [e2] at hd; cases hd
      · cases e
end
end Mine
end
section
open PySem PySem.W PyProof.Rows PySem.Calls PySem.Spec
set_option maxRecDepth 100000
namespace Mine

noncomputable abbrev RnS := Int × List Str × Int
/-- one row, run: the height, the levels, the greatest height till now -/
noncomputable def run1 (r : RowD) (s : RnS) : Option RnS := match lvBehind r.op r.cl r.ending s.2.1 with
  | none => none
  | some ks => if r.eff ≤ s.1 then some (s.1 + (r.l - r.eff), ks, if s.2.2 < s.1 then s.1 else s.2.2) else none
noncomputable def runL : List RowD → RnS → Option RnS
  | [], s => some s
  | r :: rs, s => (run1 r s).bind (runL rs)
theorem runL_app : ∀ {a b : List RowD} {s : RnS}, runL (a ++ b) s = (runL a s).bind (runL b)
  | [], b, s => rfl
  | r :: a, b, s => by
    show (run1 r s).bind (runL (a ++ b)) = ((run1 r s).bind (runL a)).bind (runL b)
    cases run1 r s with
    | none => rfl
    | some s' => exact runL_app
theorem runL_take {rows : List RowD} : ∀ i, i ≤ rows.length → runL (rows.take i) (0, [], 0) = if (List.range i).all (okA rows) then some ((stA rows i).1, (stA rows i).2, gmA rows i) else none
  | 0, _ => rfl
  | i + 1, hi => by
    have hi' : i < rows.length := by omega
    have ih := runL_take (rows := rows) i (Nat.le_of_lt hi')
    rw [List.take_add_one, List.getElem?_eq_getElem hi', runL_app, ih]
    have hg : rows.getD i default = rows[i] := by rw [List.getD_eq_getElem?_getD, List.getElem?_eq_getElem hi']; rfl
    rw [List.range_succ, List.all_append]
    cases hal : (List.range i).all (okA rows) with
    | false => rfl
    | true =>
      rw [if_pos rfl]
      show (run1 rows[i] ((stA rows i).1, (stA rows i).2, gmA rows i)).bind _ = _
      unfold run1
      have hok : okA rows i = ((lvBehind rows[i].op rows[i].cl rows[i].ending (stA rows i).2).isSome && decide (rows[i].eff ≤ (stA rows i).1)) := by unfold okA; rw [hg]
      have hst : stA rows (i + 1) = ((stA rows i).1 + (rows[i].l - rows[i].eff), (lvBehind rows[i].op rows[i].cl rows[i].ending (stA rows i).2).getD (stA rows i).2) := by rw [stA, hg]
      simp only [Bool.true_and, List.all_cons, List.all_nil, Bool.and_true]
      rw [hok, hst]
      cases hlv : lvBehind rows[i].op rows[i].cl rows[i].ending (stA rows i).2 with
      | none => rfl
      | some ks =>
        by_cases he : rows[i].eff ≤ (stA rows i).1
        · simp [he, gmA, runL]
        · simp [he]
theorem run_all {rows : List RowD} : runL rows (0, [], 0) = if allOk rows then some ((stA rows rows.length).1, (stA rows rows.length).2, gmA rows rows.length) else none := by
  have := runL_take (rows := rows) rows.length (Nat.le_refl _)
  rw [List.take_length] at this
  exact this
theorem run_ok {rows : List RowD} {s : RnS} (h : runL rows (0, [], 0) = some s) : allOk rows = true ∧ gmA rows rows.length = s.2.2 := by
  rw [run_all] at h
  cases hal : allOk rows with
  | false => rw [hal] at h; cases h
  | true =>
    rw [hal] at h
    obtain rfl := Option.some.inj h
    exact ⟨rfl, rfl⟩
theorem run_none {rows : List RowD} (h : runL rows (0, [], 0) = none) : allOk rows = false := by
  rw [run_all] at h
  cases hal : allOk rows with
  | false => rfl
  | true => rw [hal] at h; cases h

theorem run_const {r : RowD} (h1 : r.op = none) (h2 : r.cl = none) (h3 : r.ending = false) (h4 : r.eff = 0) (h5 : r.l = 1) : ∀ {n : Nat} {h m : Int} {lv : List Str}, 0 ≤ h → m ≤ h → ∃ m', runL (List.replicate n r) (h, lv, m) = some (h + n, lv, m') ∧ m' ≤ h + n
  | 0, h, m, lv, _, hm => ⟨m, by simp [runL], by omega⟩
  | n + 1, h, m, lv, h0, hm => by
    obtain ⟨m', e, hm'⟩ := run_const (n := n) (h := h + 1) (m := if m < h then h else m) (lv := lv) h1 h2 h3 h4 h5 (by omega) (by split <;> omega)
    refine ⟨m', ?_, by omega⟩
    rw [List.replicate_succ, runL, run1, h1, h2, h3, h4, h5]
    simp only [lvBehind, Bool.false_and, Bool.false_eq_true, if_false, if_pos h0, Option.bind_some]
    rw [show h + (1 - 0) = h + 1 by omega, e, show h + 1 + (n : Int) = h + ((n + 1 : Nat) : Int) by omega]
theorem run_drop {r : RowD} (h1 : r.op = none) (h2 : r.cl = none) (h3 : r.ending = false) (h4 : r.eff = 1) (h5 : r.l = 0) : ∀ {n : Nat} {m : Int} {lv : List Str}, 0 ≤ m → runL (List.replicate n r) (n, lv, m) = some (0, lv, if m < (n : Int) then (n : Int) else m)
  | 0, m, lv, hm => by
    rw [if_neg (by omega)]
    rfl
  | n + 1, m, lv, hm => by
    rw [List.replicate_succ, runL, run1, h1, h2, h3, h4, h5]
    simp only [lvBehind, Bool.false_and, Bool.false_eq_true, if_false]
    rw [if_pos (by omega), Option.bind_some, show ((n + 1 : Nat) : Int) + (0 - 1) = (n : Nat) by omega, run_drop h1 h2 h3 h4 h5 (by split <;> omega)]
    congr 3
    split
    · rw [if_neg (by omega)]
    · rw [if_neg (by omega)]
theorem run_open {f : Str → RowD} {ks : List Str} (hf : ∀ k ∈ ks, (f k).op = some k ∧ (f k).eff = 0 ∧ (f k).l = 0) : ∀ {lv : List Str}, runL (ks.map f) (0, lv, 0) = some (0, lv ++ ks, 0) := by
  induction ks with
  | nil => intro lv; rw [List.append_nil]; rfl
  | cons k ks ih =>
    intro lv
    obtain ⟨h1, h2, h3⟩ := hf k (.head _)
    rw [List.map_cons, runL, run1, h1, h2, h3]
    simp only [lvBehind]
    rw [if_pos (by omega), Option.bind_some]
    have := ih (fun k hk => hf k (.tail _ hk)) (lv := lv ++ [k])
    rw [List.append_assoc] at this
    exact this
theorem run_shut {f : Str → RowD} {sh : List Str} (hf : ∀ k ∈ sh, (f k).op = none ∧ (f k).cl = some k ∧ (f k).eff = 0 ∧ (f k).l = 0) : ∀ {m : Int} {lv : List Str}, 0 ≤ m → runL (sh.map f) (0, lv ++ sh.reverse, m) = some (0, lv, m) := by
  induction sh with
  | nil => intro m lv _; rw [List.reverse_nil, List.append_nil]; rfl
  | cons k sh ih =>
    intro m lv hm
    obtain ⟨h1, h2, h3, h4⟩ := hf k (.head _)
    rw [List.map_cons, runL, run1, h1, h2, h3, h4, List.reverse_cons, ← List.append_assoc]
    simp only [lvBehind, List.getLast?_append, List.getLast?_singleton, Option.some_or, if_true, List.dropLast_concat]
    rw [if_pos (by omega), Option.bind_some, if_neg (by omega)]
    exact ih (fun k hk => hf k (.tail _ hk)) hm
theorem shut_run {f : Str → RowD} {sh : List Str} (hf : ∀ k ∈ sh, (f k).op = none ∧ (f k).cl = some k) : ∀ {s s' : RnS}, runL (sh.map f) s = some s' → s.2.1 = s'.2.1 ++ sh.reverse := by
  induction sh with
  | nil => intro s s' h; obtain rfl := Option.some.inj h; rw [List.reverse_nil, List.append_nil]
  | cons k sh ih =>
    intro s s' h
    obtain ⟨h1, h2⟩ := hf k (.head _)
    rw [List.map_cons, runL, run1, h1, h2] at h
    simp only [lvBehind] at h
    by_cases hl : s.2.1.getLast? = some k
    · rw [if_pos hl] at h
      simp only at h
      by_cases he : (f k).eff ≤ s.1
      · rw [if_pos he, Option.bind_some] at h
        have := ih (fun k hk => hf k (.tail _ hk)) h
        simp only at this
        rw [List.reverse_cons, ← List.append_assoc, ← this]
        obtain ⟨ys, hy⟩ := List.getLast?_eq_some_iff.mp hl
        rw [hy, List.dropLast_concat]
      · rw [if_neg he] at h; cases h
    · rw [if_neg hl] at h; cases h
end Mine
end
section
open PySem PySem.W PyProof.Rows PySem.Calls PySem.Spec
set_option maxRecDepth 100000
namespace Mine
section
variable {G : Glo} {c : Cx} {oc oc1 oc2 oc3 oc' pre post : List (Addr × Cell)} {ml ml1 ml2 ml' mlc : List (Str × Slot)} {lev : Nat}

/-- what one row must keep, and its own facts as a row that is not the middle one -/
noncomputable def plainR (wd : Str) (rest : List PyData) (t l : Int) (ps : Str) (op cl : Option Str) (ending : Bool) : RowD := ⟨wd, rest, t, l, ps, op, cl, ending, [], none, [], none⟩
noncomputable def openR (k : Str) : RowD :=
  if k = Str.ofString "block" then plainR k [.str (Str.ofString "b")] 0 0 (Str.ofString "-") (some k) none false
  else if k = Str.ofString "pack" then plainR k [] 0 0 (Str.ofString "") (some k) none false
  else ⟨k, [.str (Str.ofString "e"), .int 0, .list []], 0, 0, Str.ofString "-n-", some k, none, false, [0], none, [0], none⟩
noncomputable def constR (k : Int) : RowD := plainR (Str.ofString "const") [.int k] 0 1 (Str.ofString "-") none none false
noncomputable def accR : RowD := plainR (Str.ofString "endaccept") [] 0 0 (Str.ofString "") none (some (Str.ofString "accept")) false
noncomputable def dropR : RowD := plainR (Str.ofString "drop") [] 1 0 (Str.ofString "") none none false
noncomputable def endR (k : Str) : RowD := plainR (Str.ofString "end" ++ k) [] 0 0 (Str.ofString "") none (some k) false
noncomputable def lastR (k : Str) : RowD := plainR k [] (if k == Str.ofString "endvalue" then 1 else 0) 0 (Str.ofString "") none none true

theorem lays (xs : List String) (h : (xs.all fun x => (Str.ofString x).cps.all (· < 128)) = true := by decide +kernel) : PyData.canLayAll0 (pSs xs) = true := lays_of xs h

/-- what holds of a simple row -/
theorem plain_f {wd : Str} {rest : List PyData} {t l : Int} {ps : Str} {op cl : Option Str} {ending : Bool} (W : Wd G wd t l ps) (V : Lv G wd op cl ending) (X : Wx wd) (R : RowOk ps rest) (h1 : countsL ps rest = []) (h2 : nsIn G.K 212 wd = some none) (h3 : nsIn G.K 213 wd = some none)
    (h4 : ((pSs ["dispatchf", "dispatchp"]).any fun y => PyData.eqv y (.str wd)) = false) (h5 : (wd == Str.ofString "op" || ((pSs ["index", "placeindex"]).any fun y => PyData.eqv y (.str wd))) = false) (hl : (PyData.tuple (.str wd :: rest)).canLay0 = true) : RowF G (plainR wd rest t l ps op cl ending) where
  W := W
  R := R
  V := V
  X := X
  C := { cs := h1, nsl := by simp [plainR], c1 := ⟨none, h2, rfl⟩, t1 := ⟨none, [], h3, rfl, by simp, rfl, fun i hi => absurd hi (Nat.not_lt_zero _)⟩, d1 := h4, d2 := fun a h => (nomatch h),
         need := fun h => by
          have h : (wd == Str.ofString "op" || ((pSs ["index", "placeindex"]).any fun y => PyData.eqv y (.str wd)) || false) = true := h
          rw [h5] at h; cases h }
  lay := hl
noncomputable def shK (K : Frag) (wd : Str) : Option PyData := match nsIn K 47 wd with
  | some (some v) => rvK K 20 v
  | _ => none
noncomputable def strK (K : Frag) (a : Addr) (wd : Str) : Option Str := match nsIn K a wd with
  | some (some (.str k _)) => some k
  | _ => none
theorem shK_of {K : Frag} {wd : Str} {d : PyData} (h : shK K wd = some d) : ∃ v, nsIn K 47 wd = some (some v) ∧ rvK K 20 v = some d := by
  unfold shK at h
  split at h
  · rename_i v e; exact ⟨v, e, h⟩
  · cases h
theorem strK_of {K : Frag} {a : Addr} {wd k : Str} (h : strK K a wd = some k) : ∃ tok, nsIn K a wd = some (some (.str k tok)) := by
  unfold strK at h
  split at h
  · rename_i k' tok e; obtain rfl := Option.some.inj h; exact ⟨tok, e⟩
  · cases h
theorem wd_k (I : G.Is) {wd : Str} {t l : Int} {ps : Str} (lay : (PyData.str wd).canLay0 = true) (h1 : shK (fragT pg G.w.params) wd = some (.tuple [.int t, .int l, .str ps])) (h3 : nsIn (fragT pg G.w.params) 141 wd = some none)
    (h4 : ps.cps.size ≤ 10) (h5 : ps.cps.all (· < 128) = true) : Wd G wd t l ps := by
  obtain ⟨v, h1, h2⟩ := shK_of h1
  exact ⟨lay, ⟨v, by rw [I.K]; exact h1, rvK_sound G.X (n := 20) (by rw [I.K]; exact h2)⟩, by rw [I.K]; exact h3, h4, h5⟩
theorem lv_k (I : G.Is) {wd : Str} {ending : Bool} (he : (endingD.any fun y => PyData.eqv y (.str wd)) = ending) (h1 : nsIn (fragT pg G.w.params) 219 wd = some none) (h2 : nsIn (fragT pg G.w.params) 220 wd = some none) : Lv G wd none none ending := ⟨⟨none, by rw [I.K]; exact h1, rfl⟩, ⟨none, by rw [I.K]; exact h2, rfl⟩, he⟩
theorem rowok_nil {ps : Str} (h : ps.cps = #[]) : RowOk ps [] where
  len := by rw [h]; rfl
  n := fun i hi => by rw [h] at hi; cases hi
  j := fun i hi => by rw [h] at hi; cases hi
  w := fun i hi => by rw [h] at hi; cases hi
  noJ := fun i hi => by rw [h] at hi; cases hi
theorem rowok_dash {x : PyData} : RowOk (Str.ofString "-") [x] where
  len := rfl
  n := fun i hi => by
    match i, hi with
    | 0, hi => cases hi
  j := fun i hi => by
    match i, hi with
    | 0, hi => cases hi
  w := fun i hi => by
    match i, hi with
    | 0, hi => cases hi
  noJ := fun i hi => by
    match i, hi with
    | 0, hi => cases hi

theorem lv_op (I : G.Is) {wd k : Str} (he : (endingD.any fun y => PyData.eqv y (.str wd)) = false) (hk : (PyData.str k).canLay0 = true) (h1 : strK (fragT pg G.w.params) 219 wd = some k) (h2 : nsIn (fragT pg G.w.params) 220 wd = some none) : Lv G wd (some k) none false := by
  obtain ⟨tok, h1⟩ := strK_of h1
  exact ⟨⟨_, by rw [I.K]; exact h1, ⟨tok, rfl⟩, hk⟩, ⟨none, by rw [I.K]; exact h2, rfl⟩, he⟩
theorem lv_cl (I : G.Is) {wd k : Str} (he : (endingD.any fun y => PyData.eqv y (.str wd)) = false) (hk : (PyData.str k).canLay0 = true) (h1 : nsIn (fragT pg G.w.params) 219 wd = some none) (h2 : strK (fragT pg G.w.params) 220 wd = some k) : Lv G wd none (some k) false := by
  obtain ⟨tok, h2⟩ := strK_of h2
  exact ⟨⟨none, by rw [I.K]; exact h1, rfl⟩, ⟨_, by rw [I.K]; exact h2, ⟨tok, rfl⟩, hk⟩, he⟩
theorem lay_row {wd : Str} {rest : List PyData} (h1 : (PyData.str wd).canLay0 = true) (h2 : PyData.canLayAll0 rest = true) : (PyData.tuple (.str wd :: rest)).canLay0 = true := by
  simp only [PyData.canLay0, PyData.canLayAll0, Bool.and_eq_true] at h1 ⊢
  simp [PyData.canLay0, h1, h2]
theorem lay_none : PyData.canLayAll0 [] = true := rfl
theorem rf_const (I : G.Is) (k : Int) : RowF G (constR k) := plain_f (wd_k I (lay_lit "const") (by kernel_rfl) (by kernel_rfl) (by decide) (by kernel_rfl)) (lv_k I (by kernel_rfl) (by kernel_rfl) (by kernel_rfl)) ⟨by decide, by decide, by decide, by decide, by decide, by decide⟩ rowok_dash (by kernel_rfl) (by rw [I.K]; kernel_rfl) (by rw [I.K]; kernel_rfl) (by kernel_rfl) (by kernel_rfl) (lay_row (lay_lit "const") rfl)
theorem rf_acc (I : G.Is) : RowF G accR := plain_f (wd_k I (lay_lit "endaccept") (by kernel_rfl) (by kernel_rfl) (by decide) (by kernel_rfl)) (lv_cl I (by kernel_rfl) (lay_lit "accept") (by kernel_rfl) (by kernel_rfl)) ⟨by decide, by decide, by decide, by decide, by decide, by decide⟩ (rowok_nil (by decide)) (by kernel_rfl) (by rw [I.K]; kernel_rfl) (by rw [I.K]; kernel_rfl) (by kernel_rfl) (by kernel_rfl) (lay_row (lay_lit "endaccept") rfl)
theorem rf_drop (I : G.Is) : RowF G dropR := plain_f (wd_k I (lay_lit "drop") (by kernel_rfl) (by kernel_rfl) (by decide) (by kernel_rfl)) (lv_k I (by kernel_rfl) (by kernel_rfl) (by kernel_rfl)) ⟨by decide, by decide, by decide, by decide, by decide, by decide⟩ (rowok_nil (by decide)) (by kernel_rfl) (by rw [I.K]; kernel_rfl) (by rw [I.K]; kernel_rfl) (by kernel_rfl) (by kernel_rfl) (lay_row (lay_lit "drop") rfl)
theorem rf_end_block (I : G.Is) : RowF G (plainR (Str.ofString "endblock") [] 0 0 (Str.ofString "") none (some (Str.ofString "block")) false) := plain_f (wd_k I (lay_lit "endblock") (by kernel_rfl) (by kernel_rfl) (by decide) (by kernel_rfl)) (lv_cl I (by kernel_rfl) (lay_lit "block") (by kernel_rfl) (by kernel_rfl)) ⟨by decide, by decide, by decide, by decide, by decide, by decide⟩ (rowok_nil (by decide)) (by kernel_rfl) (by rw [I.K]; kernel_rfl) (by rw [I.K]; kernel_rfl) (by kernel_rfl) (by kernel_rfl) (lay_row (lay_lit "endblock") rfl)
theorem rf_end_pack (I : G.Is) : RowF G (plainR (Str.ofString "endpack") [] 0 0 (Str.ofString "") none (some (Str.ofString "pack")) false) := plain_f (wd_k I (lay_lit "endpack") (by kernel_rfl) (by kernel_rfl) (by decide) (by kernel_rfl)) (lv_cl I (by kernel_rfl) (lay_lit "pack") (by kernel_rfl) (by kernel_rfl)) ⟨by decide, by decide, by decide, by decide, by decide, by decide⟩ (rowok_nil (by decide)) (by kernel_rfl) (by rw [I.K]; kernel_rfl) (by rw [I.K]; kernel_rfl) (by kernel_rfl) (by kernel_rfl) (lay_row (lay_lit "endpack") rfl)
theorem rf_end_accept (I : G.Is) : RowF G (plainR (Str.ofString "endaccept") [] 0 0 (Str.ofString "") none (some (Str.ofString "accept")) false) := plain_f (wd_k I (lay_lit "endaccept") (by kernel_rfl) (by kernel_rfl) (by decide) (by kernel_rfl)) (lv_cl I (by kernel_rfl) (lay_lit "accept") (by kernel_rfl) (by kernel_rfl)) ⟨by decide, by decide, by decide, by decide, by decide, by decide⟩ (rowok_nil (by decide)) (by kernel_rfl) (by rw [I.K]; kernel_rfl) (by rw [I.K]; kernel_rfl) (by kernel_rfl) (by kernel_rfl) (lay_row (lay_lit "endaccept") rfl)
theorem rf_last_endsub (I : G.Is) : RowF G (plainR (Str.ofString "endsub") [] 0 0 (Str.ofString "") none none true) := plain_f (wd_k I (lay_lit "endsub") (by kernel_rfl) (by kernel_rfl) (by decide) (by kernel_rfl)) (lv_k I (by kernel_rfl) (by kernel_rfl) (by kernel_rfl)) ⟨by decide, by decide, by decide, by decide, by decide, by decide⟩ (rowok_nil (by decide)) (by kernel_rfl) (by rw [I.K]; kernel_rfl) (by rw [I.K]; kernel_rfl) (by kernel_rfl) (by kernel_rfl) (lay_row (lay_lit "endsub") rfl)
theorem rf_last_endbody (I : G.Is) : RowF G (plainR (Str.ofString "endbody") [] 0 0 (Str.ofString "") none none true) := plain_f (wd_k I (lay_lit "endbody") (by kernel_rfl) (by kernel_rfl) (by decide) (by kernel_rfl)) (lv_k I (by kernel_rfl) (by kernel_rfl) (by kernel_rfl)) ⟨by decide, by decide, by decide, by decide, by decide, by decide⟩ (rowok_nil (by decide)) (by kernel_rfl) (by rw [I.K]; kernel_rfl) (by rw [I.K]; kernel_rfl) (by kernel_rfl) (by kernel_rfl) (lay_row (lay_lit "endbody") rfl)
theorem rf_last_endentry (I : G.Is) : RowF G (plainR (Str.ofString "endentry") [] 0 0 (Str.ofString "") none none true) := plain_f (wd_k I (lay_lit "endentry") (by kernel_rfl) (by kernel_rfl) (by decide) (by kernel_rfl)) (lv_k I (by kernel_rfl) (by kernel_rfl) (by kernel_rfl)) ⟨by decide, by decide, by decide, by decide, by decide, by decide⟩ (rowok_nil (by decide)) (by kernel_rfl) (by rw [I.K]; kernel_rfl) (by rw [I.K]; kernel_rfl) (by kernel_rfl) (by kernel_rfl) (lay_row (lay_lit "endentry") rfl)
theorem rf_last_enddecls (I : G.Is) : RowF G (plainR (Str.ofString "enddecls") [] 0 0 (Str.ofString "") none none true) := plain_f (wd_k I (lay_lit "enddecls") (by kernel_rfl) (by kernel_rfl) (by decide) (by kernel_rfl)) (lv_k I (by kernel_rfl) (by kernel_rfl) (by kernel_rfl)) ⟨by decide, by decide, by decide, by decide, by decide, by decide⟩ (rowok_nil (by decide)) (by kernel_rfl) (by rw [I.K]; kernel_rfl) (by rw [I.K]; kernel_rfl) (by kernel_rfl) (by kernel_rfl) (lay_row (lay_lit "enddecls") rfl)
theorem rf_last_endvalue (I : G.Is) : RowF G (plainR (Str.ofString "endvalue") [] 1 0 (Str.ofString "") none none true) := plain_f (wd_k I (lay_lit "endvalue") (by kernel_rfl) (by kernel_rfl) (by decide) (by kernel_rfl)) (lv_k I (by kernel_rfl) (by kernel_rfl) (by kernel_rfl)) ⟨by decide, by decide, by decide, by decide, by decide, by decide⟩ (rowok_nil (by decide)) (by kernel_rfl) (by rw [I.K]; kernel_rfl) (by rw [I.K]; kernel_rfl) (by kernel_rfl) (by kernel_rfl) (lay_row (lay_lit "endvalue") rfl)
theorem rf_block (I : G.Is) : RowF G (plainR (Str.ofString "block") [.str (Str.ofString "b")] 0 0 (Str.ofString "-") (some (Str.ofString "block")) none false) := plain_f (wd_k I (lay_lit "block") (by kernel_rfl) (by kernel_rfl) (by decide) (by kernel_rfl)) (lv_op I (by kernel_rfl) (lay_lit "block") (by kernel_rfl) (by kernel_rfl)) ⟨by decide, by decide, by decide, by decide, by decide, by decide⟩ rowok_dash (by kernel_rfl) (by rw [I.K]; kernel_rfl) (by rw [I.K]; kernel_rfl) (by kernel_rfl) (by kernel_rfl) (lay_row (lay_lit "block") (lays ["b"]))
theorem rf_pack (I : G.Is) : RowF G (plainR (Str.ofString "pack") [] 0 0 (Str.ofString "") (some (Str.ofString "pack")) none false) := plain_f (wd_k I (lay_lit "pack") (by kernel_rfl) (by kernel_rfl) (by decide) (by kernel_rfl)) (lv_op I (by kernel_rfl) (lay_lit "pack") (by kernel_rfl) (by kernel_rfl)) ⟨by decide, by decide, by decide, by decide, by decide, by decide⟩ (rowok_nil (by decide)) (by kernel_rfl) (by rw [I.K]; kernel_rfl) (by rw [I.K]; kernel_rfl) (by kernel_rfl) (by kernel_rfl) (lay_row (lay_lit "pack") rfl)
end
end Mine
end
section
open PySem PySem.W PyProof.Rows PySem.Calls PySem.Spec
set_option maxRecDepth 100000
namespace Mine
section
variable {G : Glo} {c : Cx} {oc oc1 oc2 oc3 oc' pre post : List (Addr × Cell)} {ml ml1 ml2 ml' mlc : List (Str × Slot)} {tm : List (Value × Slot)} {h h' : Heap} {m : Str → Option Value} {own fz : Led} {lev : Nat} {out : Out}

noncomputable def wordsT : Str := s307
noncomputable def mkW (a b c d : String) : Word := (Str.ofString a, Str.ofString b, Str.ofString c, Str.ofString d)
noncomputable def WS : List Word := [mkW "index" "1" "1" "n", mkW "placeindex" "1" "1" "n", mkW "op" "0" "1" "xxln", mkW "attrof" "1" "1" "xxn", mkW "taskattr" "0" "1" "xxn", mkW "recordof" "0" "1" "xln", mkW "extendof" "1" "1" "xln", mkW "callf" "0" "1" "xxn", mkW "dispatchf" "0" "1" "xin", mkW "protcall" "1" "1" "xn", mkW "callp" "1" "0" "n", mkW "dispatchp" "0" "0" "xin", mkW "entrycall" "1" "0" "xfn", mkW "trycall" "1" "0" "xfnwp", mkW "accept" "0" "0" "xfx", mkW "openaccept" "1" "1" "xxf", mkW "requeue" "0" "0" "xffx"]
noncomputable def splits : List Str := Txt.split wordsT (Str.ofString ";")
noncomputable def tellW (x : Str) : PyData := .list ((Txt.split x (Str.ofString " ")).map .str)
noncomputable def splitsL : List Str := [⟨⟨[nat_lit 105,nat_lit 110,nat_lit 100,nat_lit 101,nat_lit 120,nat_lit 32,nat_lit 49,nat_lit 32,nat_lit 49,nat_lit 32,nat_lit 110]⟩⟩, ⟨⟨[nat_lit 112,nat_lit 108,nat_lit 97,nat_lit 99,nat_lit 101,nat_lit 105,nat_lit 110,nat_lit 100,nat_lit 101,nat_lit 120,nat_lit 32,nat_lit 49,nat_lit 32,nat_lit 49,nat_lit 32,nat_lit 110]⟩⟩, ⟨⟨[nat_lit 111,nat_lit 112,nat_lit 32,nat_lit 48,nat_lit 32,nat_lit 49,nat_lit 32,nat_lit 120,nat_lit 120,nat_lit 108,nat_lit 110]⟩⟩, ⟨⟨[nat_lit 97,nat_lit 116,nat_lit 116,nat_lit 114,nat_lit 111,nat_lit 102,nat_lit 32,nat_lit 49,nat_lit 32,nat_lit 49,nat_lit 32,nat_lit 120,nat_lit 120,nat_lit 110]⟩⟩, ⟨⟨[nat_lit 116,nat_lit 97,nat_lit 115,nat_lit 107,nat_lit 97,nat_lit 116,nat_lit 116,nat_lit 114,nat_lit 32,nat_lit 48,nat_lit 32,nat_lit 49,nat_lit 32,nat_lit 120,nat_lit 120,nat_lit 110]⟩⟩, ⟨⟨[nat_lit 114,nat_lit 101,nat_lit 99,nat_lit 111,nat_lit 114,nat_lit 100,nat_lit 111,nat_lit 102,nat_lit 32,nat_lit 48,nat_lit 32,nat_lit 49,nat_lit 32,nat_lit 120,nat_lit 108,nat_lit 110]⟩⟩, ⟨⟨[nat_lit 101,nat_lit 120,nat_lit 116,nat_lit 101,nat_lit 110,nat_lit 100,nat_lit 111,nat_lit 102,nat_lit 32,nat_lit 49,nat_lit 32,nat_lit 49,nat_lit 32,nat_lit 120,nat_lit 108,nat_lit 110]⟩⟩, ⟨⟨[nat_lit 99,nat_lit 97,nat_lit 108,nat_lit 108,nat_lit 102,nat_lit 32,nat_lit 48,nat_lit 32,nat_lit 49,nat_lit 32,nat_lit 120,nat_lit 120,nat_lit 110]⟩⟩, ⟨⟨[nat_lit 100,nat_lit 105,nat_lit 115,nat_lit 112,nat_lit 97,nat_lit 116,nat_lit 99,nat_lit 104,nat_lit 102,nat_lit 32,nat_lit 48,nat_lit 32,nat_lit 49,nat_lit 32,nat_lit 120,nat_lit 105,nat_lit 110]⟩⟩, ⟨⟨[nat_lit 112,nat_lit 114,nat_lit 111,nat_lit 116,nat_lit 99,nat_lit 97,nat_lit 108,nat_lit 108,nat_lit 32,nat_lit 49,nat_lit 32,nat_lit 49,nat_lit 32,nat_lit 120,nat_lit 110]⟩⟩, ⟨⟨[nat_lit 99,nat_lit 97,nat_lit 108,nat_lit 108,nat_lit 112,nat_lit 32,nat_lit 49,nat_lit 32,nat_lit 48,nat_lit 32,nat_lit 110]⟩⟩, ⟨⟨[nat_lit 100,nat_lit 105,nat_lit 115,nat_lit 112,nat_lit 97,nat_lit 116,nat_lit 99,nat_lit 104,nat_lit 112,nat_lit 32,nat_lit 48,nat_lit 32,nat_lit 48,nat_lit 32,nat_lit 120,nat_lit 105,nat_lit 110]⟩⟩, ⟨⟨[nat_lit 101,nat_lit 110,nat_lit 116,nat_lit 114,nat_lit 121,nat_lit 99,nat_lit 97,nat_lit 108,nat_lit 108,nat_lit 32,nat_lit 49,nat_lit 32,nat_lit 48,nat_lit 32,nat_lit 120,nat_lit 102,nat_lit 110]⟩⟩, ⟨⟨[nat_lit 116,nat_lit 114,nat_lit 121,nat_lit 99,nat_lit 97,nat_lit 108,nat_lit 108,nat_lit 32,nat_lit 49,nat_lit 32,nat_lit 48,nat_lit 32,nat_lit 120,nat_lit 102,nat_lit 110,nat_lit 119,nat_lit 112]⟩⟩, ⟨⟨[nat_lit 97,nat_lit 99,nat_lit 99,nat_lit 101,nat_lit 112,nat_lit 116,nat_lit 32,nat_lit 48,nat_lit 32,nat_lit 48,nat_lit 32,nat_lit 120,nat_lit 102,nat_lit 120]⟩⟩, ⟨⟨[nat_lit 111,nat_lit 112,nat_lit 101,nat_lit 110,nat_lit 97,nat_lit 99,nat_lit 99,nat_lit 101,nat_lit 112,nat_lit 116,nat_lit 32,nat_lit 49,nat_lit 32,nat_lit 49,nat_lit 32,nat_lit 120,nat_lit 120,nat_lit 102]⟩⟩, ⟨⟨[nat_lit 114,nat_lit 101,nat_lit 113,nat_lit 117,nat_lit 101,nat_lit 117,nat_lit 101,nat_lit 32,nat_lit 48,nat_lit 32,nat_lit 48,nat_lit 32,nat_lit 120,nat_lit 102,nat_lit 102,nat_lit 120]⟩⟩]
theorem splits_eq : splits = splitsL := by kernel_rfl
theorem splits_words : splits.map tellW = WS.map wordD := by rw [splits_eq]; kernel_rfl
theorem splits_short : splits.all (fun x => decide (x.length ≤ 1000)) = true := by rw [splits_eq]; kernel_rfl
theorem splits_len : splits.length = 17 := by rw [splits_eq]; kernel_rfl
theorem g_words (I : G.Is) : ∃ tok, nsIn G.K mainGlobals (Str.ofString "_law_words") = some (some (.str wordsT tok)) := strK_of (by rw [I.K]; kernel_rfl)

/-- one turn of the law is good from every turn of the urn on -/
noncomputable def RightOk (G : Glo) (ns : List Int) : Prop := ∀ (c : Cx) (t : Int), c.Ok G 20 → c.outer = [] → 0 ≤ t → t ≤ 1000 → ∃ t', t ≤ t' ∧ t' ≤ t + 100 ∧ ∀ u post ml, Cal G c ((u, .urn ns t) :: post) ml (.ref 304) [.urn u, .d (.list (WS.map wordD))] (.d (.bool true)) ((u, .urn ns t') :: post)

noncomputable def lawCx (h0 : Heap) (L fa : Addr) (cd : Value) : Cx := ⟨callerA, [], h0, L, envOf (Str.ofString "law") (fScope (stN pg 38)) L fa cd, envOf (Str.ofString "law") (fScope (stN pg 38)) L fa cd, [], []⟩
theorem kp_304 (I : G.Is) : keepIn G.K (.ref 304) = true := by rw [I.K]; kernel_rfl
set_option maxHeartbeats 1600000 in
theorem law_body (I : G.Is) {h0 : Heap} {L fa : Addr} {cd : Value} (ok : (lawCx h0 L fa cd).FOk G 20) {ns : List Int} (hl : ns.length ≤ 63) (R : RightOk G (ns.take 50)) :
    Ex G (lawCx h0 L fa cd) [] [(Str.ofString "script", .d (.list (ns.map .int)))] (fBody (stN pg 38)) (.ret (.d (.bool true)) []) := by
  have okk := ok.toOk
  obtain ⟨t1, a1, b1, R1⟩ := R (lawCx h0 L fa cd) 0 okk rfl (by omega) (by omega)
  obtain ⟨t2, a2, b2, R2⟩ := R (lawCx h0 L fa cd) t1 okk rfl (by omega) (by omega)
  obtain ⟨t3, a3, b3, R3⟩ := R (lawCx h0 L fa cd) t2 okk rfl (by omega) (by omega)
  obtain ⟨tok, hw⟩ := g_words I
  refine ex_assign_urn (ns := ns.take 50) (t := 0) ok (by rfl) (fun oc => ?script) (fun oc => ev_int) (fun u => ?_)
  case script =>
    refine ev_eq (EvO.ev (evo_slice okk (ev_name (by assumption) (by walk_at "mlk")) (ev_slice pte_none (pte_some ev_int) pte_none) (.inl rfl) (by decide) (by rw [List.length_map]; omega))) ?_
    rw [pick_upto (by decide), List.map_take]
    rfl
  refine ex_cons (oc1 := [(u, .urn (ns.take 50) 0)]) (sx_assign_comp (n := (splits.map PyData.str).length) (oc1 := [(u, .urn (ns.take 50) 0)]) (mlc := []) (keep := fun _ => true) (val := fun i => tellW (splits.getD i default)) (el := fun i => .d ((splits.map PyData.str).getD i .none)) ok (by rfl) ?iter (by rfl) seen_nil (by rw [List.length_map, splits_len]; decide) (fun C tl i hi okc => ⟨.inl ⟨rfl, rfl⟩, fun _ => ?elt⟩)) ?_
  case iter => exact ite_list okk (EvO.ev (evo_split okk (ev_globalD okk hw (RV.str _ _) (by rfl)) ev_str (by decide) (by decide)))
  case elt =>
    have hi' : i < splits.length := by rw [List.length_map] at hi; exact hi
    refine EvO.ev (evo_split okc (ev_eq (ev_name (by assumption) (by walk_at "mlk")) (by rw [pK_getD hi'])) ev_str (by decide) ?_)
    have := List.all_eq_true.mp splits_short (splits.getD i default) (by rw [List.getD_eq_getElem?_getD, List.getElem?_eq_getElem hi']; exact List.getElem_mem hi')
    have := of_decide_eq_true this
    omega
  refine ex_weak (ml' := [(Str.ofString "urn", .urn u), (Str.ofString "words", .d (.list (WS.map wordD)))]) (fun y hy => ?_) ?_
  · have e : ((List.range (splits.map PyData.str).length).filter fun _ => true).map (fun i => tellW (splits.getD i default)) = WS.map wordD := by
      rw [List.length_map, filter_all, range_map, splits_words]
    rw [e]
    revert y hy
    show ∀ y ∈ _, _
    walk_at "mls"
  refine ex_cons (oc1 := [(u, .urn (ns.take 50) t3)]) (sx_for (n := 3) (fun i => [(u, .urn (ns.take 50) (if i = 0 then 0 else if i = 1 then t1 else if i = 2 then t2 else t3))]) (fun _ => [(Str.ofString "urn", .urn u), (Str.ofString "words", .d (.list (WS.map wordD)))]) okk
    (ite_range (n := 3) okk (ev_builtin okk (n_range I) (by rfl) (by decide) (by rfl)) ev_int (by decide)) (fun i _ => tgt_name ok (by rfl)) (fun tl i hi => ⟨_, .inl rfl, ?_⟩)) ?_
  · rcases (by omega : i = 0 ∨ i = 1 ∨ i = 2) with rfl | rfl | rfl
    · exact ex_weak_next (ex_cons (sx_if_f (tr_not (tr_ev (ev_callK okk (ev_global okk (g__law_right I) (by rfl)) (kp_304 I) (evl_cons (ev_name (by assumption) (by walk_at "mlk")) (evl_cons (ev_name (by assumption) (by walk_at "mlk")) evl_nil)) (R1 u tl _)))) ex_nil) ex_nil) (by walk_at "mls")
    · exact ex_weak_next (ex_cons (sx_if_f (tr_not (tr_ev (ev_callK okk (ev_global okk (g__law_right I) (by rfl)) (kp_304 I) (evl_cons (ev_name (by assumption) (by walk_at "mlk")) (evl_cons (ev_name (by assumption) (by walk_at "mlk")) evl_nil)) (R2 u tl _)))) ex_nil) ex_nil) (by walk_at "mls")
    · exact ex_weak_next (ex_cons (sx_if_f (tr_not (tr_ev (ev_callK okk (ev_global okk (g__law_right I) (by rfl)) (kp_304 I) (evl_cons (ev_name (by assumption) (by walk_at "mlk")) (evl_cons (ev_name (by assumption) (by walk_at "mlk")) evl_nil)) (R3 u tl _)))) ex_nil) ex_nil) (by walk_at "mls")
  · exact ex_ret_drop (pre := [(u, .urn (ns.take 50) t3)]) ok (ex_ret (sx_return ev_bool))
end
end Mine
end
section
open PySem PySem.W PyProof.Rows PySem.Calls PySem.Spec
set_option maxRecDepth 100000
namespace Mine
section
variable {G : Glo} {c : Cx} {oc oc1 oc2 oc3 oc' pre post : List (Addr × Cell)} {ml ml1 ml2 ml' mlc : List (Str × Slot)} {lev : Nat}

noncomputable def codeOkB (cp : Nat) (x : PyData) : Bool := if cp = 110 || cp = 106 then (match x with | .int _ => true | _ => false) else if cp = 119 then (match x with | .str z => (PyData.str z).canLay0 | _ => false) else !decide (cp = 74)
noncomputable def rowOkB : List Nat → List PyData → Bool
  | [], [] => true
  | c :: cs, x :: xs => codeOkB c x && rowOkB cs xs
  | _, _ => false
theorem rowOkB_at : ∀ {cs : List Nat} {xs : List PyData}, rowOkB cs xs = true → xs.length = cs.length ∧ ∀ (i : Nat) (cp : Nat), cs[i]? = some cp → ∃ x, xs[i]? = some x ∧ codeOkB cp x = true
  | [], [], _ => ⟨rfl, fun i cp h => by simp at h⟩
  | c :: cs, x :: xs, h => by
    rw [rowOkB, Bool.and_eq_true] at h
    obtain ⟨h1, h2⟩ := rowOkB_at h.2
    refine ⟨by simp [h1], fun i cp hi => ?_⟩
    match i, hi with
    | 0, hi => obtain rfl := Option.some.inj hi; exact ⟨x, rfl, h.1⟩
    | i + 1, hi => exact h2 i cp hi
  | [], _ :: _, h => by cases h
  | _ :: _, [], h => by cases h
theorem rowok_b {ps : Str} {rest : List PyData} (h : rowOkB ps.cps.toList rest = true) : RowOk ps rest := by
  obtain ⟨h1, h2⟩ := rowOkB_at h
  have h3 : ∀ (i cp : Nat), ps.cps[i]? = some cp → ∃ x, rest[i]? = some x ∧ codeOkB cp x = true := fun i cp hi => h2 i cp (by rw [Array.getElem?_toList]; exact hi)
  refine ⟨by rw [h1]; simp, fun i hi => ?_, fun i hi => ?_, fun i hi => ?_, fun i hi => ?_⟩
  · obtain ⟨x, hx, hc⟩ := h3 i _ hi
    cases x <;> first | exact ⟨_, hx⟩ | (simp [codeOkB] at hc)
  · obtain ⟨x, hx, hc⟩ := h3 i _ hi
    cases x <;> first | exact ⟨_, hx⟩ | (simp [codeOkB] at hc)
  · obtain ⟨x, hx, hc⟩ := h3 i _ hi
    cases x <;> first | exact ⟨_, hx, hc⟩ | (simp [codeOkB] at hc)
  · obtain ⟨x, hx, hc⟩ := h3 i _ hi
    simp [codeOkB] at hc

noncomputable def truK (K : Frag) (wd : Str) : Option PyData := match nsIn K 213 wd with
  | some (some v) => rvK K 20 v
  | some none => some (.tuple [])
  | none => none
theorem tru_k (I : G.Is) {wd : Str} {rest : List PyData} {ats tru : List Int} (h1 : truK (fragT pg G.w.params) wd = some (.tuple (ats.map .int))) (h2 : ats.length ≤ 5) (h3 : tru.length = ats.length) (h4 : ∀ i : Nat, i < ats.length → 0 ≤ ats.getD i 0 ∧ ats.getD i 0 < 100 ∧ (PyData.str wd :: rest)[(ats.getD i 0).toNat]? = some (.int (tru.getD i 0))) :
    ∃ r ats, nsIn G.K 213 wd = some r ∧ (match r with | none => ats = [] | some v => RV G.H0 [] v (.tuple (ats.map .int))) ∧ ats.length ≤ 5 ∧ tru.length = ats.length ∧ ∀ i : Nat, i < ats.length → 0 ≤ ats.getD i 0 ∧ ats.getD i 0 < 100 ∧ (PyData.str wd :: rest)[(ats.getD i 0).toNat]? = some (.int (tru.getD i 0)) := by
  unfold truK at h1
  rw [← I.K] at h1
  split at h1
  · rename_i v e; exact ⟨some v, ats, e, rvK_sound G.X h1, h2, h3, h4⟩
  · rename_i e
    obtain rfl : ats = [] := by cases ats with
      | nil => rfl
      | cons a as => simp at h1
    exact ⟨none, [], e, rfl, h2, h3, h4⟩
  · cases h1
theorem rf_accept (I : G.Is) : RowF G ⟨Str.ofString "accept", [.str (Str.ofString "e"), .int 0, .list []], 0, 0, Str.ofString "-n-", some (Str.ofString "accept"), none, false, [0], none, [0], none⟩ where
  W := wd_k I (lay_lit "accept") (by kernel_rfl) (by kernel_rfl) (by decide) (by kernel_rfl)
  R := rowok_b (by kernel_rfl)
  V := lv_op I (by kernel_rfl) (lay_lit "accept") (by kernel_rfl) (by kernel_rfl)
  X := ⟨by decide, by decide, by decide, by decide, by decide, by decide⟩
  C := { cs := by kernel_rfl, nsl := by decide, c1 := ⟨none, by rw [I.K]; kernel_rfl, rfl⟩, t1 := tru_k I (ats := [2]) (by kernel_rfl) (by decide) rfl (fun i hi => by match i, hi with | 0, _ => exact ⟨by decide, by decide, rfl⟩), d1 := by kernel_rfl, d2 := fun a h => (nomatch h), need := fun h => by simp }
  lay := lay_row (lay_lit "accept") (by kernel_rfl)
end
end Mine
end
section
open PySem PySem.W PyProof.Rows PySem.Calls PySem.Spec
set_option maxRecDepth 100000
namespace Mine
section
variable {G : Glo} {c : Cx} {oc oc1 oc2 oc3 oc' pre post : List (Addr × Cell)} {ml ml1 ml2 ml' mlc : List (Str × Slot)} {lev : Nat}

/-- what the middle row is, for the row that the law draws -/
structure Mid (G : Glo) (wd psL : Str) (i1 i2 : Int) (rest : List PyData) (nums flags : List Int) (R : Int → RowD) (jmp : Bool) : Prop where
  T : Tk wd psL rest nums flags
  hwd : ∀ n, (R n).wd = wd
  hrest : ∀ n, (R n).rest = rest.map (hereD n)
  F : ∀ n, RowF G (R n)
  l : ∀ n, (R n).l = i2
  hi2 : 0 ≤ i2 ∧ i2 ≤ 5
  op : ∀ n, (R n).op = if wd == Str.ofString "accept" then some (Str.ofString "accept") else none
  cl : ∀ n, (R n).cl = none
  en : ∀ n, (R n).ending = false
  jn : ∀ n, jN (R n).ps (R n).rest (R n).ps.cps.size = if jmp then [.int n] else []
  go : goesOn wd = true
  bad : takenV wd psL rest nums flags i1 = none → ∀ n, rBad (R n) = true
  good : ∀ k, takenV wd psL rest nums flags i1 = some k → 0 ≤ k ∧ k ≤ 50 ∧ ∀ n, rBad (R n) = false ∧ (R n).eff = k

/-- the row of one's own, with its rows -/
structure Small (G : Glo) (r : RowD) : Prop where
  F : RowF G r
  go : goesOn r.wd = true
  jn : jN r.ps r.rest r.ps.cps.size = []
  bad : rBad r = false
theorem kd_cases (z : Int) : kd z = Str.ofString "block" ∨ kd z = Str.ofString "pack" ∨ kd z = Str.ofString "accept" := by
  unfold kd
  split
  · exact .inl rfl
  · split
    · exact .inr (.inl rfl)
    · exact .inr (.inr rfl)
theorem open_block : openR (Str.ofString "block") = plainR (Str.ofString "block") [.str (Str.ofString "b")] 0 0 (Str.ofString "-") (some (Str.ofString "block")) none false := rfl
theorem open_pack : openR (Str.ofString "pack") = plainR (Str.ofString "pack") [] 0 0 (Str.ofString "") (some (Str.ofString "pack")) none false := by
  unfold openR; rw [if_neg (by decide), if_pos rfl]
theorem open_accept : openR (Str.ofString "accept") = ⟨Str.ofString "accept", [.str (Str.ofString "e"), .int 0, .list []], 0, 0, Str.ofString "-n-", some (Str.ofString "accept"), none, false, [0], none, [0], none⟩ := by
  unfold openR; rw [if_neg (by decide), if_neg (by decide)]
theorem sm_open (I : G.Is) {k : Str} (h : ∃ z, k = kd z) : Small G (openR k) ∧ (openR k).op = some k ∧ (openR k).eff = 0 ∧ (openR k).l = 0 ∧ (openR k).data = openD k := by
  obtain ⟨z, rfl⟩ := h
  rcases kd_cases z with e | e | e <;> rw [e]
  · rw [open_block]; exact ⟨⟨rf_block I, by kernel_rfl, by kernel_rfl, by kernel_rfl⟩, rfl, by kernel_rfl, rfl, rfl⟩
  · rw [open_pack]; exact ⟨⟨rf_pack I, by kernel_rfl, by kernel_rfl, by kernel_rfl⟩, rfl, by kernel_rfl, rfl, by kernel_rfl⟩
  · rw [open_accept]; exact ⟨⟨rf_accept I, by kernel_rfl, by kernel_rfl, by kernel_rfl⟩, rfl, by kernel_rfl, rfl, by kernel_rfl⟩
theorem sm_end (I : G.Is) {k : Str} (h : ∃ z, k = kd z) : Small G (endR k) ∧ (endR k).op = none ∧ (endR k).cl = some k ∧ (endR k).eff = 0 ∧ (endR k).l = 0 := by
  obtain ⟨z, rfl⟩ := h
  rcases kd_cases z with e | e | e <;> rw [e]
  · exact ⟨⟨rf_end_block I, by kernel_rfl, by kernel_rfl, by kernel_rfl⟩, rfl, rfl, by kernel_rfl, rfl⟩
  · exact ⟨⟨rf_end_pack I, by kernel_rfl, by kernel_rfl, by kernel_rfl⟩, rfl, rfl, by kernel_rfl, rfl⟩
  · exact ⟨⟨rf_end_accept I, by kernel_rfl, by kernel_rfl, by kernel_rfl⟩, rfl, rfl, by kernel_rfl, rfl⟩
theorem sm_const (I : G.Is) (k : Int) : Small G (constR k) := ⟨rf_const I k, by kernel_rfl, by kernel_rfl, by kernel_rfl⟩
theorem sm_acc (I : G.Is) : Small G accR := ⟨rf_acc I, by kernel_rfl, by kernel_rfl, by kernel_rfl⟩
theorem sm_drop (I : G.Is) : Small G dropR := ⟨rf_drop I, by kernel_rfl, by kernel_rfl, by kernel_rfl⟩
theorem last_f (I : G.Is) (z : Int) : RowF G (lastR (lastS z)) ∧ goesOn (lastR (lastS z)).wd = false ∧ jN (lastR (lastS z)).ps (lastR (lastS z)).rest (lastR (lastS z)).ps.cps.size = [] ∧ rBad (lastR (lastS z)) = false ∧ (lastR (lastS z)).eff = (if lastS z == Str.ofString "endvalue" then 1 else 0) := by
  unfold lastS
  split
  · exact ⟨rf_last_endsub I, by kernel_rfl, by kernel_rfl, by kernel_rfl, by kernel_rfl⟩
  · split
    · exact ⟨rf_last_endbody I, by kernel_rfl, by kernel_rfl, by kernel_rfl, by kernel_rfl⟩
    · split
      · exact ⟨rf_last_endentry I, by kernel_rfl, by kernel_rfl, by kernel_rfl, by kernel_rfl⟩
      · split
        · exact ⟨rf_last_enddecls I, by kernel_rfl, by kernel_rfl, by kernel_rfl, by kernel_rfl⟩
        · exact ⟨rf_last_endvalue I, by kernel_rfl, by kernel_rfl, by kernel_rfl, by kernel_rfl⟩

/-- the rows ahead of the middle one, and behind it but the last -/
noncomputable def preR (ks : List Str) (mN : Nat) : List RowD := ks.map openR ++ List.replicate mN (constR 1)
noncomputable def postR (wd : Str) (rN : Nat) (shut : List Str) (last : Str) : List RowD :=
  (if wd == Str.ofString "accept" then [accR] else []) ++ List.replicate rN dropR ++ shut.map endR ++ (if last == Str.ofString "endvalue" then [constR 0] else [])
noncomputable def rowsR (ks : List Str) (mN : Nat) (r : RowD) (wd : Str) (rN : Nat) (shut : List Str) (last : Str) : List RowD := preR ks mN ++ [r] ++ postR wd rN shut last ++ [lastR last]

theorem pre_small (I : G.Is) {ks : List Str} {mN : Nat} (hk : ∀ k ∈ ks, ∃ z, k = kd z) : ∀ r ∈ preR ks mN, Small G r := fun r hr => by
  rcases List.mem_append.mp hr with hr | hr
  · obtain ⟨k, hk', rfl⟩ := List.mem_map.mp hr
    exact (sm_open I (hk k hk')).1
  · obtain rfl := (List.mem_replicate.mp hr).2
    exact sm_const I 1
theorem post_small (I : G.Is) {wd last : Str} {rN : Nat} {shut : List Str} (hk : ∀ k ∈ shut, ∃ z, k = kd z) : ∀ r ∈ postR wd rN shut last, Small G r := fun r hr => by
  unfold postR at hr
  rcases List.mem_append.mp hr with hr | hr
  · rcases List.mem_append.mp hr with hr | hr
    · rcases List.mem_append.mp hr with hr | hr
      · split at hr
        · obtain rfl := List.mem_singleton.mp hr; exact sm_acc I
        · cases hr
      · obtain rfl := (List.mem_replicate.mp hr).2; exact sm_drop I
    · obtain ⟨k, hk', rfl⟩ := List.mem_map.mp hr; exact (sm_end I (hk k hk')).1
  · split at hr
    · obtain rfl := List.mem_singleton.mp hr; exact sm_const I 0
    · cases hr
theorem rows_data {ks shut : List Str} {mN rN : Nat} {r : RowD} {wd last : Str} {rest : List PyData} (I : G.Is) (hk : ∀ k ∈ ks, ∃ z, k = kd z) (hw : r.wd = wd) (hr : r.rest = rest.map (hereD ((rg0 ks mN).length + 1))) (hh : hereD ((rg0 ks mN).length + 1) (.str wd) = .str wd) :
    (rowsR ks mN r wd rN shut last).map RowD.data = rg3 ks shut mN wd rest rN last := by
  unfold rowsR preR postR rg3 rg2 rg0 rgRow
  have h1 : (ks.map openR).map RowD.data = ks.map openD := by
    rw [List.map_map]
    exact List.map_congr_left fun k hk' => (sm_open I (hk k hk')).2.2.2.2
  have h2 : r.data = .tuple ((PyData.str wd :: rest).map (hereD ((rg0 ks mN).length + 1))) := by
    unfold RowD.data
    rw [hw, hr, List.map_cons, hh]
  have h3 : (shut.map endR).map RowD.data = shut.map fun k => oneD (Str.ofString "end" ++ k) := by
    rw [List.map_map]; rfl
  have h4 : (if wd == Str.ofString "accept" then [accR] else []).map RowD.data = if wd == Str.ofString "accept" then [oneD (Str.ofString "endaccept")] else [] := by split <;> rfl
  have h5 : (if last == Str.ofString "endvalue" then [constR 0] else []).map RowD.data = if last == Str.ofString "endvalue" then [constD 0] else [] := by split <;> rfl
  simp only [List.map_append, h1, h3, h4, h5, List.map_replicate, List.map_cons, List.map_nil, h2, List.append_assoc]
  rfl
end
end Mine
end
section
open PySem PySem.W PyProof.Rows PySem.Calls PySem.Spec
set_option maxRecDepth 100000
namespace Mine
section
variable {G : Glo}

theorem range_any {rows : List RowD} {f : RowD → Bool} : (List.range rows.length).any (fun i => f (rows.getD i default)) = rows.any f := by
  have h : (List.range rows.length).map (fun i => rows.getD i default) = rows := by
    have := range_map (xs := rows) (d := default) (f := id)
    rw [List.map_id] at this
    exact this
  calc (List.range rows.length).any (fun i => f (rows.getD i default)) = ((List.range rows.length).map (fun i => rows.getD i default)).any f := by rw [List.any_map]; rfl
    _ = rows.any f := by rw [h]
theorem codeBad_eq {rows : List RowD} : codeBad rows = (rows.any rBad || !allOk rows) := by unfold codeBad; rw [range_any]

theorem run_last_some {r : RowD} {s s' : RnS} (h1 : r.op = none) (h2 : r.cl = none) (h3 : r.ending = true) (h : run1 r s = some s') : s.2.1 = [] := by
  unfold run1 at h
  rw [h1, h2, h3] at h
  cases hl : s.2.1 with
  | nil => rfl
  | cons a l => rw [hl] at h; simp [lvBehind] at h
theorem run_same_some {r : RowD} {s s' : RnS} (h1 : r.op = none) (h2 : r.cl = none) (h3 : r.ending = false) (h : run1 r s = some s') : s'.2.1 = s.2.1 := by
  unfold run1 at h
  rw [h1, h2, h3] at h
  simp only [lvBehind, Bool.false_and, Bool.false_eq_true, if_false] at h
  split at h
  · rw [← Option.some.inj h]
  · cases h
theorem runL_one {r : RowD} {s : RnS} : runL [r] s = run1 r s := by
  show (run1 r s).bind (runL []) = _
  cases run1 r s <;> rfl

theorem core (I : G.Is) {wd psL : Str} {i1 i2 : Int} {rest : List PyData} {nums flags : List Int} {R : Int → RowD} {jmp : Bool} (M : Mid G wd psL i1 i2 rest nums flags R jmp) {ks shut : List Str} {mN rN : Nat} {n z : Int} {good : Bool}
    (hks : ∀ k ∈ ks, ∃ z, k = kd z) (hsh : ∀ k ∈ shut, ∃ z, k = kd z) (hm : 2 ≤ mN) (hg : rgGood (takenV wd psL rest nums flags i1) mN ks shut = good) (hr : rgRest (takenV wd psL rest nums flags i1) mN i2 good = (rN : Int)) :
    codeBad (rowsR ks mN (R n) wd rN shut (lastS z)) = !good ∧ (good = true → gmA (rowsR ks mN (R n) wd rN shut (lastS z)) (rowsR ks mN (R n) wd rN shut (lastS z)).length = if (rN : Int) > mN then (rN : Int) else mN) := by
  rw [codeBad_eq]
  cases htk : takenV wd psL rest nums flags i1 with
  | none =>
    rw [htk] at hg
    obtain rfl : false = good := hg
    have hb := M.bad htk n
    refine ⟨?_, fun h => nomatch h⟩
    have : (rowsR ks mN (R n) wd rN shut (lastS z)).any rBad = true := List.any_eq_true.mpr ⟨R n, by unfold rowsR; simp, hb⟩
    rw [this]; rfl
  | some k =>
    rw [htk] at hg hr
    obtain ⟨hk0, hk1, hkn⟩ := M.good k htk
    obtain ⟨hb, he⟩ := hkn n
    have hlast := last_f I z
    have hany : (rowsR ks mN (R n) wd rN shut (lastS z)).any rBad = false := by
      rw [List.any_eq_false]
      intro r hr
      unfold rowsR at hr
      rcases List.mem_append.mp hr with hr | hr
      · rcases List.mem_append.mp hr with hr | hr
        · rcases List.mem_append.mp hr with hr | hr
          · rw [(pre_small I hks r hr).bad]; simp
          · obtain rfl := List.mem_singleton.mp hr; rw [hb]; simp
        · rw [(post_small I hsh r hr).bad]; simp
      · obtain rfl := List.mem_singleton.mp hr; rw [hlast.2.2.2.1]; simp
    rw [hany, Bool.false_or]
    have e1 := run_open (f := openR) (ks := ks) (fun k hk => ⟨(sm_open I (hks k hk)).2.1, (sm_open I (hks k hk)).2.2.1, (sm_open I (hks k hk)).2.2.2.1⟩) (lv := [])
    rw [List.nil_append] at e1
    obtain ⟨m', e2, hm'⟩ := run_const (r := constR 1) (n := mN) (h := 0) (m := 0) (lv := ks) rfl rfl rfl (by kernel_rfl) rfl (by omega) (by omega)
    rw [Int.zero_add] at e2 hm'
    have e12 : runL (preR ks mN) (0, [], 0) = some ((mN : Int), ks, m') := by
      unfold preR
      rw [runL_app, e1, Option.bind_some, e2]
    have hgood : good = (decide (k ≤ (mN : Int)) && decide (shut = ks.reverse)) := hg.symm
    -- the middle row
    by_cases hkm : k ≤ (mN : Int)
    · obtain ⟨lv, e3, hlv⟩ : ∃ lv, run1 (R n) ((mN : Int), ks, m') = some ((mN : Int) + (i2 - k), lv, (mN : Int)) ∧ lv = (if wd == Str.ofString "accept" then ks ++ [Str.ofString "accept"] else ks) := by
        refine ⟨_, ?_, rfl⟩
        unfold run1
        rw [M.op n, M.cl n, M.en n, M.l n, he]
        have hmax : (if m' < (mN : Int) then (mN : Int) else m') = (mN : Int) := by split <;> omega
        simp only [hmax]
        cases hwa : (wd == Str.ofString "accept") with
        | true =>
          show (if k ≤ (mN : Int) then some ((mN : Int) + (i2 - k), ks ++ [Str.ofString "accept"], (mN : Int)) else none) = _
          rw [if_pos hkm]; rfl
        | false =>
          show (if k ≤ (mN : Int) then some ((mN : Int) + (i2 - k), ks, (mN : Int)) else none) = _
          rw [if_pos hkm]; rfl
      have hi2 := M.hi2
      -- the end of an accept of its own
      obtain ⟨m1, e4, hm1, hm1'⟩ : ∃ m1, runL (if wd == Str.ofString "accept" then [accR] else []) ((mN : Int) + (i2 - k), lv, (mN : Int)) = some ((mN : Int) + (i2 - k), ks, m1) ∧ (m1 = (mN : Int) ∨ m1 = (if (mN : Int) < (mN : Int) + (i2 - k) then (mN : Int) + (i2 - k) else (mN : Int))) ∧ (mN : Int) ≤ m1 := by
        cases hwa : (wd == Str.ofString "accept") with
        | true =>
          rw [hwa, if_pos rfl] at hlv
          refine ⟨_, ?_, .inr rfl, by split <;> omega⟩
          rw [if_pos rfl, runL_one, hlv]
          unfold run1
          have : lvBehind accR.op accR.cl accR.ending (ks ++ [Str.ofString "accept"]) = some ks := by
            show (if (ks ++ [Str.ofString "accept"]).getLast? = some (Str.ofString "accept") then some (ks ++ [Str.ofString "accept"]).dropLast else none) = _
            rw [List.getLast?_append, List.getLast?_singleton, Option.some_or, if_pos rfl, List.dropLast_concat]
          rw [this]
          have hz : accR.eff = 0 := by kernel_rfl
          have hz2 : accR.l = 0 := rfl
          simp only [hz, hz2]
          rw [if_pos (by omega), show (mN : Int) + (i2 - k) + (0 - 0) = (mN : Int) + (i2 - k) by omega]
        | false =>
          rw [hwa] at hlv
          have hlv : lv = ks := hlv
          refine ⟨_, ?_, .inl rfl, by omega⟩
          rw [hlv]; rfl
      by_cases hsr : shut = ks.reverse
      · have hgt : good = true := by rw [hgood, decide_eq_true hkm, decide_eq_true hsr]; rfl
        rw [hgt] at hr
        have hr : (mN : Int) - k + i2 = (rN : Int) := hr
        have hH : (mN : Int) + (i2 - k) = (rN : Int) := by omega
        rw [hH] at e3 e4 hm1
        have e5 := run_drop (r := dropR) (n := rN) (m := m1) (lv := ks) rfl rfl rfl (by kernel_rfl) rfl (by omega)
        have hm2 : (if m1 < (rN : Int) then (rN : Int) else m1) = if (rN : Int) > mN then (rN : Int) else mN := by
          by_cases hx : (mN : Int) < (rN : Int)
          · rw [if_pos hx] at hm1
            rw [if_pos (show (rN : Int) > mN from hx)]
            rcases hm1 with h | h
            · rw [h, if_pos hx]
            · rw [h, if_neg (by omega)]
          · rw [if_neg hx] at hm1
            rw [if_neg (show ¬ (rN : Int) > mN from hx)]
            rcases hm1 with h | h <;> rw [h, if_neg hx]
        rw [hm2] at e5
        generalize hmm : (if (rN : Int) > mN then (rN : Int) else (mN : Int)) = mm at e5
        have hmm2 : 2 ≤ mm := by rw [← hmm]; split <;> omega
        have e6 := run_shut (f := endR) (sh := shut) (fun k hk => ⟨(sm_end I (hsh k hk)).2.1, (sm_end I (hsh k hk)).2.2.1, (sm_end I (hsh k hk)).2.2.2.1, (sm_end I (hsh k hk)).2.2.2.2⟩) (m := mm) (lv := []) (by omega)
        rw [List.nil_append, hsr, List.reverse_reverse, ← hsr] at e6
        obtain ⟨h7, e7, e8⟩ : ∃ h7, runL (if lastS z == Str.ofString "endvalue" then [constR 0] else []) (0, [], mm) = some (h7, [], mm) ∧ ∃ h8, run1 (lastR (lastS z)) (h7, [], mm) = some (h8, [], mm) := by
          have hle := hlast.2.2.2.2
          have hop : (lastR (lastS z)).op = none := rfl
          have hcl : (lastR (lastS z)).cl = none := rfl
          cases hz : (lastS z == Str.ofString "endvalue") with
          | true =>
            rw [hz] at hle
            have hle : (lastR (lastS z)).eff = 1 := hle
            refine ⟨1, ?_, (1 : Int) + ((lastR (lastS z)).l - (lastR (lastS z)).eff), ?_⟩
            · have h1 : (constR 0).eff = 0 := by kernel_rfl
              rw [if_pos rfl, runL_one]
              unfold run1
              show (if (constR 0).eff ≤ 0 then some ((0 : Int) + (1 - (constR 0).eff), ([] : List Str), if mm < 0 then (0 : Int) else mm) else none) = _
              rw [h1, if_pos (by omega), if_neg (by omega)]; rfl
            · unfold run1
              show (if (lastR (lastS z)).eff ≤ 1 then some (_, ([] : List Str), if mm < 1 then (1 : Int) else mm) else none) = _
              rw [hle, if_pos (by omega), if_neg (by omega)]
          | false =>
            rw [hz] at hle
            have hle : (lastR (lastS z)).eff = 0 := hle
            refine ⟨0, rfl, (0 : Int) + ((lastR (lastS z)).l - (lastR (lastS z)).eff), ?_⟩
            unfold run1
            show (if (lastR (lastS z)).eff ≤ 0 then some (_, ([] : List Str), if mm < 0 then (0 : Int) else mm) else none) = _
            rw [hle, if_pos (by omega), if_neg (by omega)]
        obtain ⟨h8, e8⟩ := e8
        have eall : runL (rowsR ks mN (R n) wd rN shut (lastS z)) (0, [], 0) = some (h8, [], mm) := by
          unfold rowsR postR
          rw [runL_app, runL_app, runL_app, e12, Option.bind_some, runL_one, e3, Option.bind_some, runL_app, runL_app, runL_app, e4, Option.bind_some, e5, Option.bind_some, e6, Option.bind_some, e7, Option.bind_some, runL_one, e8]
        obtain ⟨o1, o2⟩ := run_ok eall
        rw [o1, hgt]
        exact ⟨rfl, fun _ => by rw [o2]⟩
      · have hgf : good = false := by rw [hgood, decide_eq_false hsr, Bool.and_false]
        rw [hgf] at hr
        have hr : (0 : Int) = (rN : Int) := hr
        obtain rfl : rN = 0 := by omega
        have hall : allOk (rowsR ks mN (R n) wd 0 shut (lastS z)) = false := by
          refine run_none ?_
          cases hrun : runL (rowsR ks mN (R n) wd 0 shut (lastS z)) (0, [], 0) with
          | none => rfl
          | some s' =>
            exfalso
            unfold rowsR postR at hrun
            rw [runL_app, runL_app, runL_app, e12, Option.bind_some, runL_one, e3, Option.bind_some, runL_app, runL_app, runL_app, e4, Option.bind_some] at hrun
            rw [show runL (List.replicate 0 dropR) ((mN : Int) + (i2 - k), ks, m1) = some ((mN : Int) + (i2 - k), ks, m1) from rfl, Option.bind_some] at hrun
            cases h6 : runL (shut.map endR) ((mN : Int) + (i2 - k), ks, m1) with
            | none => rw [h6] at hrun; cases hrun
            | some s6 =>
              rw [h6, Option.bind_some] at hrun
              have hs6 := shut_run (f := endR) (sh := shut) (fun k hk => ⟨(sm_end I (hsh k hk)).2.1, (sm_end I (hsh k hk)).2.2.1⟩) h6
              have hs6 : ks = s6.2.1 ++ shut.reverse := hs6
              cases h7 : runL (if lastS z == Str.ofString "endvalue" then [constR 0] else []) s6 with
              | none => rw [h7] at hrun; cases hrun
              | some s7 =>
                rw [h7, Option.bind_some, runL_one] at hrun
                have h8 := run_last_some (r := lastR (lastS z)) rfl rfl rfl hrun
                have h9 : s7.2.1 = s6.2.1 := by
                  split at h7
                  · rw [runL_one] at h7; exact run_same_some (r := constR 0) rfl rfl rfl h7
                  · rw [← Option.some.inj h7]
                rw [← h9, h8, List.nil_append] at hs6
                exact hsr (by rw [hs6, List.reverse_reverse])
        rw [hall, hgf]
        exact ⟨rfl, fun h => nomatch h⟩
    · have hgf : good = false := by rw [hgood, decide_eq_false hkm, Bool.false_and]
      have hall : allOk (rowsR ks mN (R n) wd rN shut (lastS z)) = false := by
        refine run_none ?_
        unfold rowsR
        have e3 : run1 (R n) ((mN : Int), ks, m') = none := by
          unfold run1
          rw [he]
          cases lvBehind (R n).op (R n).cl (R n).ending ks with
          | none => rfl
          | some l => exact if_neg hkm
        rw [runL_app, runL_app, runL_app, e12, Option.bind_some, runL_one, e3]; rfl
      rw [hall, hgf]
      exact ⟨rfl, fun h => nomatch h⟩
end
end Mine
end
section
open PySem PySem.W PyProof.Rows PySem.Calls PySem.Spec
set_option maxRecDepth 100000
namespace Mine
section
variable {G : Glo} {c : Cx} {post : List (Addr × Cell)} {ml : List (Str × Slot)} {lev : Nat}

theorem nest_facts {ns : List Int} {t : Int} {ks shut : List Str} {t3 : Int} (h : nestV ns t = (ks, shut, t3)) : ks.length ≤ 2 ∧ shut.length ≤ 10 ∧ t ≤ t3 ∧ t3 ≤ t + 10 ∧ (∀ k ∈ ks, ∃ z, k = kd z) ∧ (∀ k ∈ shut, ∃ z, k = kd z) := by
  have hn0 := cellV_lo (ns := ns) (t := t) (many := 3) (by decide)
  have hn1 := cellV_hi (ns := ns) (t := t) (many := 3) (by decide)
  have hkl : (kindsN ns t (cellV ns t 3).toNat).length = (cellV ns t 3).toNat := kindsN_len
  have hkk : ∀ k ∈ kindsN ns t (cellV ns t 3).toNat, ∃ z, k = kd z := fun k hk => by
    obtain ⟨j, _, rfl⟩ := List.mem_map.mp hk
    exact ⟨_, rfl⟩
  have hrk : ∀ k ∈ (kindsN ns t (cellV ns t 3).toNat).reverse, ∃ z, k = kd z := fun k hk => hkk k (List.mem_reverse.mp hk)
  have hlen : (cellV ns t 3).toNat ≤ 2 := by omega
  unfold nestV at h
  simp only at h
  generalize kindsN ns t (cellV ns t 3).toNat = K at h hkl hkk hrk
  generalize (cellV ns t 3).toNat = n at h hkl hlen
  by_cases h0 : n = 0
  · rw [if_pos h0] at h
    simp only [Prod.mk.injEq] at h
    obtain ⟨rfl, rfl, rfl⟩ := h
    exact ⟨by omega, by rw [List.length_reverse]; omega, by omega, by omega, hkk, hrk⟩
  · rw [if_neg h0] at h
    by_cases h1 : cellV ns (t + 1 + (n : Nat)) 4 = 1
    · rw [if_pos h1] at h
      simp only [Prod.mk.injEq] at h
      obtain ⟨rfl, rfl, rfl⟩ := h
      refine ⟨by omega, by rw [List.length_set, List.length_reverse]; omega, by omega, by omega, hkk, fun k hk => ?_⟩
      rcases List.mem_or_eq_of_mem_set hk with hk | rfl
      · exact hrk k hk
      · exact ⟨_, rfl⟩
    · rw [if_neg h1] at h
      by_cases h2 : cellV ns (t + 1 + (n : Nat)) 4 = 2
      · rw [if_pos h2] at h
        simp only [Prod.mk.injEq] at h
        obtain ⟨rfl, rfl, rfl⟩ := h
        exact ⟨by omega, by rw [List.length_drop, List.length_reverse]; omega, by omega, by omega, hkk, fun k hk => hrk k (List.mem_of_mem_drop hk)⟩
      · rw [if_neg h2] at h
        by_cases h3 : cellV ns (t + 1 + (n : Nat)) 4 = 3
        · rw [if_pos h3] at h
          simp only [Prod.mk.injEq] at h
          obtain ⟨rfl, rfl, rfl⟩ := h
          refine ⟨by omega, by rw [List.length_append, List.length_take, List.length_reverse]; omega, by omega, by omega, hkk, fun k hk => ?_⟩
          rcases List.mem_append.mp hk with hk | hk
          · exact hrk k (List.mem_of_mem_take hk)
          · exact hrk k hk
        · rw [if_neg h3] at h
          simp only [Prod.mk.injEq] at h
          obtain ⟨rfl, rfl, rfl⟩ := h
          exact ⟨by omega, by rw [List.length_reverse]; omega, by omega, by omega, hkk, hrk⟩

theorem getD_l {α : Type} {A B : List α} {i : Nat} {d : α} (h : i < A.length) : (A ++ B).getD i d = A.getD i d := by
  rw [List.getD_eq_getElem?_getD, List.getElem?_append_left h, List.getD_eq_getElem?_getD]
theorem getD_mem {α : Type} {A : List α} {i : Nat} {d : α} (h : i < A.length) : A.getD i d ∈ A := by
  rw [List.getD_eq_getElem?_getD, List.getElem?_eq_getElem h]; exact List.getElem_mem h
theorem getD_r {α : Type} {A B : List α} {i : Nat} {d : α} (h : A.length ≤ i) : (A ++ B).getD i d = B.getD (i - A.length) d := by
  rw [List.getD_eq_getElem?_getD, List.getElem?_append_right h, List.getD_eq_getElem?_getD]
theorem prog_of (I : G.Is) {A B : List RowD} {r l : RowD} {jmp : Bool} (hA : ∀ x ∈ A, Small G x) (hB : ∀ x ∈ B, Small G x) (hr : RowF G r) (hrg : goesOn r.wd = true) (hrj : jN r.ps r.rest r.ps.cps.size = if jmp then [.int ((A.length : Int) + 1)] else [])
    (hl : RowF G l) (hlg : goesOn l.wd = false) (hlj : jN l.ps l.rest l.ps.cps.size = []) (hlen : A.length + B.length ≤ 90) : Prog G (A ++ [r] ++ B ++ [l]) (if jmp then some A.length else none) := by
  have hlen2 : (A ++ [r] ++ B ++ [l]).length = A.length + B.length + 2 := by simp; omega
  -- what stands at a place
  have at_ : ∀ i, i < A.length + B.length + 2 → (i < A.length ∧ Small G ((A ++ [r] ++ B ++ [l]).getD i default)) ∨ (i = A.length ∧ (A ++ [r] ++ B ++ [l]).getD i default = r) ∨ (A.length < i ∧ i < A.length + B.length + 1 ∧ Small G ((A ++ [r] ++ B ++ [l]).getD i default)) ∨ (i = A.length + B.length + 1 ∧ (A ++ [r] ++ B ++ [l]).getD i default = l) := by
    intro i hi
    rcases Nat.lt_trichotomy i A.length with h | h | h
    · refine .inl ⟨h, ?_⟩
      rw [getD_l (by simp; omega), getD_l (by simp; omega), getD_l h]
      exact hA _ (getD_mem h)
    · refine .inr (.inl ⟨h, ?_⟩)
      rw [getD_l (by simp; omega), getD_l (by simp; omega), getD_r (by omega), h, Nat.sub_self]; rfl
    · by_cases h2 : i < A.length + B.length + 1
      · refine .inr (.inr (.inl ⟨h, h2, ?_⟩))
        rw [getD_l (by simp; omega), getD_r (by simp; omega)]
        exact hB _ (getD_mem (by simp; omega))
      · refine .inr (.inr (.inr ⟨by omega, ?_⟩))
        rw [getD_r (by simp; omega)]
        have : i - (A ++ [r] ++ B).length = 0 := by simp; omega
        rw [this]; rfl
  refine ⟨by omega, by omega, fun i hi => ?_, fun i hi => ?_, fun i hi => ?_, fun p hp => ?_⟩
  · rcases at_ i (by omega) with ⟨_, h⟩ | ⟨_, h⟩ | ⟨_, _, h⟩ | ⟨_, h⟩
    · exact h.F
    · rw [h]; exact hr
    · exact h.F
    · rw [h]; exact hl
  · rw [hlen2] at hi ⊢
    rcases at_ i (by omega) with ⟨h1, h⟩ | ⟨h1, h⟩ | ⟨h1, h2, h⟩ | ⟨h1, h⟩
    · rw [h.go, decide_eq_true (by omega)]
    · rw [h, hrg, decide_eq_true (by omega)]
    · rw [h.go, decide_eq_true (by omega)]
    · rw [h, hlg, decide_eq_false (by omega)]
  · rcases at_ i (by omega) with ⟨h1, h⟩ | ⟨h1, h⟩ | ⟨h1, h2, h⟩ | ⟨h1, h⟩
    · rw [h.jn]; cases jmp with
      | false => rfl
      | true => rw [if_pos rfl, if_neg (fun e => by have := Option.some.inj e; omega)]
    · rw [h, hrj, h1]; cases jmp <;> simp
    · rw [h.jn]; cases jmp with
      | false => rfl
      | true => rw [if_pos rfl, if_neg (fun e => by have := Option.some.inj e; omega)]
    · rw [h, hlj]; cases jmp with
      | false => rfl
      | true => rw [if_pos rfl, if_neg (fun e => by have := Option.some.inj e; omega)]
  · cases jmp with
    | false => cases hp
    | true => rw [if_pos rfl] at hp; have := Option.some.inj hp; omega

/-- one turn, given what the law draws as its row -/
theorem right_mid (I : G.Is) (ok : c.Ok G 20) (hout : c.outer = []) {ns : List Int} {t : Int} {wd n1 n2 psL : Str} {i1 i2 : Int} {hasL : Bool} {rest : List PyData} {nums flags : List Int} {R : Int → RowD} {jmp : Bool} {t2 : Int}
    (h0 : 0 ≤ t) (hb : t ≤ 1000) (hl : ns.length ≤ 50) (hw : WS[(cellV ns (t + 1) (WS.length : Nat)).toNat]? = some (wd, n1, n2, psL))
    (hi1 : PySem.intText? n1 = some i1) (hi1l : n1.length ≤ 640) (hi2 : PySem.intText? n2 = some i2) (hi2l : n2.length ≤ 640) (hL : (!(Builtin.Str.occurrences psL (Str.ofString "l") 0 psL.length 1).isEmpty) = hasL)
    (hlast : ∀ i : Nat, psL.cps[i]? = some 110 → hasL = true → ∃ r zs, (rowN ns hasL (.str wd) (.str (Str.ofString "here")) psL (t + 1 + 1) i).1 = r ++ [.list zs] ∧ zs.length ≤ 100)
    (hrow : rowN ns hasL (.str wd) (.str (Str.ofString "here")) psL (t + 1 + 1) psL.cps.size = (.str wd :: rest, t2)) (hsz : psL.cps.size ≤ 10) (M : Mid G wd psL i1 i2 rest nums flags R jmp) (hh : ∀ n, hereD n (.str wd) = .str wd) :
    ∃ t', t ≤ t' ∧ t' ≤ t + 100 ∧ ∀ u post ml, Cal G c ((u, .urn ns t) :: post) ml (.ref 304) [.urn u, .d (.list (WS.map wordD))] (.d (.bool true)) ((u, .urn ns t') :: post) := by
  obtain ⟨k4, hk4, hk4v⟩ := cell_cases (ns := ns) (t := t) 4 (by decide)
  have hk4v : cellV ns t 4 = (k4 : Int) := hk4v
  have hrt := rowN_t (ns := ns) (hasL := hasL) (word := .str wd) (place := .str (Str.ofString "here")) (ps := psL) (t := t + 1 + 1) psL.cps.size
  rw [hrow] at hrt
  obtain ⟨hrt1, hrt2⟩ := hrt
  have hrt1 : t + 1 + 1 ≤ t2 := hrt1
  have hrt2 : t2 ≤ t + 1 + 1 + psL.cps.size := hrt2
  obtain ⟨ks, shut, t3, hn⟩ : ∃ ks shut t3, nestV ns t2 = (ks, shut, t3) := ⟨_, _, _, rfl⟩
  obtain ⟨f1, f2, f3, f4, f5, f6⟩ := nest_facts hn
  obtain ⟨good, hgood⟩ : ∃ good, rgGood (takenV wd psL rest nums flags i1) ((2 + k4 : Nat) : Int) ks shut = good := ⟨_, rfl⟩
  have hi2b := M.hi2
  obtain ⟨rN, hrest, hrN⟩ : ∃ rN : Nat, rgRest (takenV wd psL rest nums flags i1) ((2 + k4 : Nat) : Int) i2 good = (rN : Int) ∧ rN ≤ 20 := by
    cases htk : takenV wd psL rest nums flags i1 with
    | none => exact ⟨0, rfl, by omega⟩
    | some k =>
      obtain ⟨g1, g2, _⟩ := M.good k htk
      cases hg : good with
      | false => exact ⟨0, rfl, by omega⟩
      | true =>
        rw [htk, hg] at hgood
        have hgood : (decide (k ≤ ((2 + k4 : Nat) : Int)) && decide (shut = ks.reverse)) = true := hgood
        rw [Bool.and_eq_true, decide_eq_true_eq] at hgood
        obtain ⟨hgk, _⟩ := hgood
        refine ⟨(((2 + k4 : Nat) : Int) - k + i2).toNat, ?_, by omega⟩
        show ((2 + k4 : Nat) : Int) - k + i2 = _
        rw [Int.toNat_of_nonneg (by omega)]
  have hlen0 : (rg0 ks (2 + k4)).length = (preR ks (2 + k4)).length := by simp [rg0, preR]
  have hpl : (preR ks (2 + k4)).length ≤ 10 := by simp [preR]; omega
  have hql : (postR wd rN shut (lastS (cellV ns t3 5))).length ≤ 40 := by
    have a1 : (if wd == Str.ofString "accept" then [accR] else []).length ≤ 1 := by split <;> simp
    have a2 : (if lastS (cellV ns t3 5) == Str.ofString "endvalue" then [constR 0] else []).length ≤ 1 := by split <;> simp
    unfold postR
    rw [List.length_append, List.length_append, List.length_append, List.length_replicate, List.length_map]; omega
  have hcore := core I M (n := ((rg0 ks (2 + k4)).length : Int) + 1) (z := cellV ns t3 5) f5 f6 (by omega) hgood hrest
  have hlf := last_f I (cellV ns t3 5)
  have P : Prog G (rowsR ks (2 + k4) (R (((rg0 ks (2 + k4)).length : Int) + 1)) wd rN shut (lastS (cellV ns t3 5))) (if jmp then some (preR ks (2 + k4)).length else none) :=
    prog_of I (pre_small I f5) (post_small I f6) (M.F _) (by rw [M.hwd]; exact M.go) (by rw [M.jn, hlen0]) hlf.1 hlf.2.1 hlf.2.2.1 (by omega)
  refine ⟨t3 + 1, by omega, by omega, fun u post ml => ?_⟩
  have hcal := law_right_c (lev := 14) (c := c) (u := u) (post := post) (ml := ml) (mN := 2 + k4) (rN := rN) I ok hout h0 (by omega) (by omega) (by decide) (by decide) hw (by rw [hk4v]; omega) hi1 hi1l hi2 hi2l hL hlast hrow M.T hn hgood hrest (by omega) (rows_data I f5 (M.hwd _) (M.hrest _) (hh _)) P (by omega) f1 (by omega) (by omega) f5 f6
  have hres : (if codeBad (rowsR ks (2 + k4) (R (((rg0 ks (2 + k4)).length : Int) + 1)) wd rN shut (lastS (cellV ns t3 5))) then !good else good && (gmA (rowsR ks (2 + k4) (R (((rg0 ks (2 + k4)).length : Int) + 1)) wd rN shut (lastS (cellV ns t3 5))) (rowsR ks (2 + k4) (R (((rg0 ks (2 + k4)).length : Int) + 1)) wd rN shut (lastS (cellV ns t3 5))).length == (if (rN : Int) > ((2 + k4 : Nat) : Int) then (rN : Int) else ((2 + k4 : Nat) : Int)))) = true := by
    rw [hcore.1]
    cases hg : good with
    | false => rfl
    | true => rw [hcore.2 hg]; simp
  rw [hres] at hcal
  exact hcal
end
end Mine
end
section
open PySem PySem.W PyProof.Rows PySem.Calls PySem.Spec
set_option maxRecDepth 100000
namespace Mine
section
variable {G : Glo} {c : Cx} {post : List (Addr × Cell)} {ml : List (Str × Slot)} {lev : Nat}
noncomputable def isL : PyData → Bool
  | .list _ => true
  | _ => false
noncomputable def isI : PyData → Bool
  | .int _ => true
  | _ => false
noncomputable def tkB : List Nat → List PyData → Bool
  | [], [] => true
  | c :: cs, x :: xs => (if c = 108 then isL x else if c = 105 then isI x else true) && tkB cs xs
  | _, _ => false
theorem tkB_at : ∀ {cs : List Nat} {xs : List PyData}, tkB cs xs = true → xs.length = cs.length ∧ ∀ (i : Nat) (cp : Nat), cs[i]? = some cp → ∃ x, xs[i]? = some x ∧ (cp = 108 → ∃ zs, x = .list zs) ∧ (cp = 105 → ∃ k, x = .int k)
  | [], [], _ => ⟨rfl, fun i cp h => by simp at h⟩
  | c :: cs, x :: xs, h => by
    rw [tkB, Bool.and_eq_true] at h
    obtain ⟨h1, h2⟩ := tkB_at h.2
    refine ⟨by simp [h1], fun i cp hi => ?_⟩
    match i, hi with
    | 0, hi =>
      obtain rfl := Option.some.inj hi
      refine ⟨x, rfl, fun e => ?_, fun e => ?_⟩
      · subst e
        have h := h.1
        cases x <;> first | exact ⟨_, rfl⟩ | (simp [isL, isI] at h)
      · subst e
        have h := h.1
        cases x <;> first | exact ⟨_, rfl⟩ | (simp [isL, isI] at h)
    | i + 1, hi => exact h2 i cp hi
  | [], _ :: _, h => by cases h
  | _ :: _, [], h => by cases h
theorem tk_of {wd ps : Str} {rest : List PyData} {nums flags : List Int} (lay : (PyData.tuple (.str wd :: rest)).canLay0 = true) (h : tkB ps.cps.toList rest = true) (sz : ps.cps.size ≤ 10) (asc : ps.cps.all (· < 128) = true) (n : sieve 110 ps rest = nums.map .int) (f : sieve 102 ps rest = flags.map .int)
    (nl : nums.length ≤ 10) (fl : flags.length ≤ 10) (hlen : ∀ zs, PyData.list zs ∈ rest → zs.length ≤ 100) (hn : nums ≠ [] ∨ ((ps.cps.toList.all fun c => !(c == 108) && !(c == 105)) = true ∧ (wd == Str.ofString "op") = false)) : Tk wd ps rest nums flags := by
  obtain ⟨h1, h2⟩ := tkB_at h
  have h3 : ∀ (i cp : Nat), ps.cps[i]? = some cp → ps.cps.toList[i]? = some cp := fun i cp hi => by rw [Array.getElem?_toList]; exact hi
  refine ⟨lay, by rw [h1]; simp, sz, asc, n, f, nl, fl, fun i hi => ?_, fun i hi => ?_, fun ho => ?_⟩
  · obtain ⟨x, hx, hl, _⟩ := h2 i _ (h3 i _ hi)
    obtain ⟨zs, rfl⟩ := hl rfl
    refine ⟨zs, hx, hlen zs (List.mem_of_getElem? hx), ?_⟩
    rcases hn with hn | ⟨hn, _⟩
    · exact hn
    · have := List.all_eq_true.mp hn 108 (List.mem_of_getElem? (h3 i _ hi)); simp at this
  · obtain ⟨x, hx, _, hl⟩ := h2 i _ (h3 i _ hi)
    obtain ⟨k, rfl⟩ := hl rfl
    refine ⟨k, hx, ?_⟩
    rcases hn with hn | ⟨hn, _⟩
    · exact hn
    · have := List.all_eq_true.mp hn 105 (List.mem_of_getElem? (h3 i _ hi)); simp at this
  · rcases hn with hn | ⟨_, hn⟩
    · exact hn
    · rw [ho] at hn; cases hn
theorem lay_c {x : PyData} {xs : List PyData} (h : x.canLay0 = true) (hs : PyData.canLayAll0 xs = true) : PyData.canLayAll0 (x :: xs) = true := by simp [PyData.canLayAll0, h, hs]
theorem lay_i (k : Int) : (PyData.int k).canLay0 = true := by simp [PyData.canLay0]
theorem lay_abc (n : Nat) : (PyData.list (abc.take n)).canLay0 = true := lay_list fun x hx => by
  have hx := List.mem_of_mem_take hx
  unfold abc at hx
  rcases List.mem_cons.mp hx with rfl | hx
  · exact lay_lit "a"
  · rcases List.mem_cons.mp hx with rfl | hx
    · exact lay_lit "b"
    · rw [List.mem_singleton.mp hx]; exact lay_lit "c"
theorem len_abc {n : Nat} {zs : List PyData} (h : zs = abc.take n) : zs.length ≤ 100 := by
  rw [h, List.length_take]
  have : abc.length = 3 := rfl
  omega
noncomputable def intK (K : Frag) (wd : Str) : Option Int := match nsIn K 212 wd with
  | some (some (.int k _)) => some k
  | _ => none
theorem intK_of {K : Frag} {wd : Str} {k : Int} (h : intK K wd = some k) : ∃ tok, nsIn K 212 wd = some (some (.int k tok)) := by
  unfold intK at h
  split at h
  · rename_i k' tok e; obtain rfl := Option.some.inj h; exact ⟨tok, e⟩
  · cases h
theorem cnt_k (I : G.Is) {wd : Str} {rest : List PyData} {k : Int} {zs : List PyData} {n : Nat} (h : intK (fragT pg G.w.params) wd = some k) (h0 : 0 ≤ k) (h1 : k < 100) (h2 : (PyData.str wd :: rest)[k.toNat]? = some (.list zs)) (h3 : zs.length = n) (h4 : n ≤ 100) :
    ∃ r, nsIn G.K 212 wd = some r ∧ (match some n with | none => r = none | some n => ∃ k tok zs, r = some (.int k tok) ∧ 0 ≤ k ∧ k < 100 ∧ (PyData.str wd :: rest)[k.toNat]? = some (.list zs) ∧ zs.length = n ∧ n ≤ 100) := by
  obtain ⟨tok, h⟩ := intK_of h
  exact ⟨_, by rw [I.K]; exact h, k, tok, zs, rfl, h0, h1, h2, h3, h4⟩
noncomputable def chk (wd psL : Str) (rest : List PyData) (nums flags : List Int) (i1 : Int) (r : RowD) : Bool := match takenV wd psL rest nums flags i1 with
  | none => rBad r
  | some k => !rBad r && (r.eff == k) && decide (0 ≤ k) && decide (k ≤ 50)
theorem mid_mk {wd psL : Str} {i1 i2 : Int} {rest : List PyData} {nums flags : List Int} {R : Int → RowD} {jmp : Bool} (T : Tk wd psL rest nums flags) (hwd : ∀ n, (R n).wd = wd) (hrest : ∀ n, (R n).rest = rest.map (hereD n)) (F : ∀ n, RowF G (R n)) (l : ∀ n, (R n).l = i2) (hi2 : 0 ≤ i2 ∧ i2 ≤ 5)
    (op : ∀ n, (R n).op = if wd == Str.ofString "accept" then some (Str.ofString "accept") else none) (cl : ∀ n, (R n).cl = none) (en : ∀ n, (R n).ending = false) (jn : ∀ n, jN (R n).ps (R n).rest (R n).ps.cps.size = if jmp then [.int n] else []) (go : goesOn wd = true)
    (hn : ∀ n, rBad (R n) = rBad (R 0) ∧ (R n).eff = (R 0).eff) (hc : chk wd psL rest nums flags i1 (R 0) = true) : Mid G wd psL i1 i2 rest nums flags R jmp where
  T := T
  hwd := hwd
  hrest := hrest
  F := F
  l := l
  hi2 := hi2
  op := op
  cl := cl
  en := en
  jn := jn
  go := go
  bad := fun h n => by
    unfold chk at hc
    rw [h] at hc
    rw [(hn n).1]; exact hc
  good := fun k h => by
    unfold chk at hc
    rw [h] at hc
    simp only [Bool.and_eq_true, decide_eq_true_eq, Bool.not_eq_true', beq_iff_eq] at hc
    obtain ⟨⟨⟨h1, h2⟩, h3⟩, h4⟩ := hc
    exact ⟨h3, h4, fun n => ⟨by rw [(hn n).1]; exact h1, by rw [(hn n).2]; exact h2⟩⟩
noncomputable def rest_index (a : Nat) : List PyData := [.int ((a : Int) - 1)]
noncomputable def row_index (a : Nat) (n : Int) : RowD := ⟨Str.ofString "index", [.int ((a : Int) - 1)], 1, 1, Str.ofString "n", none, none, false, [((a : Int) - 1)], none, [], none⟩
theorem chk_index : ∀ (a : Fin 6), chk (Str.ofString "index") (Str.ofString "n") (rest_index a.val) [(((a.val : Nat) : Int) - 1)] [] 1 (row_index a.val 0) = true := by decide +kernel
theorem mid_index (I : G.Is) {a : Nat} (ha : a < 6) : Mid G (Str.ofString "index") (Str.ofString "n") 1 1 (rest_index a) [((a : Int) - 1)] [] (row_index a) false :=
  mid_mk (tk_of (lay_row (lay_lit "index") (lay_c (lay_i _) rfl)) (by kernel_rfl) (by decide) (by kernel_rfl) (by kernel_rfl) (by kernel_rfl) (by simp) (by simp) (fun zs h => by unfold rest_index at h; simp at h) (.inl (by simp))) (fun _ => rfl) (fun _ => by kernel_rfl) (fun n => { W := wd_k I (wd := Str.ofString "index") (ps := Str.ofString "n") (lay_lit "index") (by kernel_rfl) (by kernel_rfl) (by decide) (by kernel_rfl), R := rowok_b (by kernel_rfl), V := lv_k I (by kernel_rfl) (by kernel_rfl) (by kernel_rfl), X := (show Wx (Str.ofString "index") from ⟨by decide, by decide, by decide, by decide, by decide, by decide⟩), C := { cs := by kernel_rfl, nsl := by simp [row_index], c1 := ⟨none, by rw [I.K]; kernel_rfl, rfl⟩, t1 := tru_k I (ats := []) (by kernel_rfl) (by decide) rfl (fun i hi => absurd hi (Nat.not_lt_zero _)), d1 := by kernel_rfl, d2 := fun _ h => (nomatch h), need := fun h => by simp [row_index] }, lay := (lay_row (lay_lit "index") (lay_c (lay_i _) rfl)) }) (fun _ => rfl) (by decide) (fun _ => by kernel_rfl) (fun _ => rfl) (fun _ => rfl) (fun _ => by kernel_rfl) (by kernel_rfl) (fun _ => ⟨by kernel_rfl, by kernel_rfl⟩) (chk_index ⟨a, ha⟩)
theorem turn_index (I : G.Is) (ok : c.Ok G 20) (hout : c.outer = []) {ns : List Int} {t : Int} (h0 : 0 ≤ t) (hbt : t ≤ 1000) (hl : ns.length ≤ 50) (hcv : cellV ns (t + 1) (WS.length : Nat) = 0) :
    ∃ t', t ≤ t' ∧ t' ≤ t + 100 ∧ ∀ u post ml, Cal G c ((u, .urn ns t) :: post) ml (.ref 304) [.urn u, .d (.list (WS.map wordD))] (.d (.bool true)) ((u, .urn ns t') :: post) := by
  obtain ⟨a, ha, ea⟩ := cell_cases (ns := ns) (t := t + 1 + 1) 6 (by decide)
  have ea : cellV ns (t + 1 + 1) 6 = (a : Int) := ea
  have hrow : rowN ns false (.str (Str.ofString "index")) (.str (Str.ofString "here")) (Str.ofString "n") (t + 1 + 1) (Str.ofString "n").cps.size = (.str (Str.ofString "index") :: [.int (cellV ns (t + 1 + 1) 6 - 1)], t + 1 + 1 + 1) := by kernel_rfl
  rw [ea] at hrow
  exact right_mid I ok hout (wd := Str.ofString "index") (psL := Str.ofString "n") (n1 := Str.ofString "1") (n2 := Str.ofString "1") (hasL := false) (i1 := 1) (i2 := 1) h0 hbt hl (by rw [hcv]; rfl) (by kernel_rfl) (by decide) (by kernel_rfl) (by decide) (by kernel_rfl) (fun _ _ h => nomatch h) hrow (by decide) (mid_index I ha) (fun _ => by kernel_rfl)
noncomputable def rest_placeindex (a : Nat) : List PyData := [.int ((a : Int) - 1)]
noncomputable def row_placeindex (a : Nat) (n : Int) : RowD := ⟨Str.ofString "placeindex", [.int ((a : Int) - 1)], 1, 1, Str.ofString "n", none, none, false, [((a : Int) - 1)], none, [], none⟩
theorem chk_placeindex : ∀ (a : Fin 6), chk (Str.ofString "placeindex") (Str.ofString "n") (rest_placeindex a.val) [(((a.val : Nat) : Int) - 1)] [] 1 (row_placeindex a.val 0) = true := by decide +kernel
theorem mid_placeindex (I : G.Is) {a : Nat} (ha : a < 6) : Mid G (Str.ofString "placeindex") (Str.ofString "n") 1 1 (rest_placeindex a) [((a : Int) - 1)] [] (row_placeindex a) false :=
  mid_mk (tk_of (lay_row (lay_lit "placeindex") (lay_c (lay_i _) rfl)) (by kernel_rfl) (by decide) (by kernel_rfl) (by kernel_rfl) (by kernel_rfl) (by simp) (by simp) (fun zs h => by unfold rest_placeindex at h; simp at h) (.inl (by simp))) (fun _ => rfl) (fun _ => by kernel_rfl) (fun n => { W := wd_k I (wd := Str.ofString "placeindex") (ps := Str.ofString "n") (lay_lit "placeindex") (by kernel_rfl) (by kernel_rfl) (by decide) (by kernel_rfl), R := rowok_b (by kernel_rfl), V := lv_k I (by kernel_rfl) (by kernel_rfl) (by kernel_rfl), X := (show Wx (Str.ofString "placeindex") from ⟨by decide, by decide, by decide, by decide, by decide, by decide⟩), C := { cs := by kernel_rfl, nsl := by simp [row_placeindex], c1 := ⟨none, by rw [I.K]; kernel_rfl, rfl⟩, t1 := tru_k I (ats := []) (by kernel_rfl) (by decide) rfl (fun i hi => absurd hi (Nat.not_lt_zero _)), d1 := by kernel_rfl, d2 := fun _ h => (nomatch h), need := fun h => by simp [row_placeindex] }, lay := (lay_row (lay_lit "placeindex") (lay_c (lay_i _) rfl)) }) (fun _ => rfl) (by decide) (fun _ => by kernel_rfl) (fun _ => rfl) (fun _ => rfl) (fun _ => by kernel_rfl) (by kernel_rfl) (fun _ => ⟨by kernel_rfl, by kernel_rfl⟩) (chk_placeindex ⟨a, ha⟩)
theorem turn_placeindex (I : G.Is) (ok : c.Ok G 20) (hout : c.outer = []) {ns : List Int} {t : Int} (h0 : 0 ≤ t) (hbt : t ≤ 1000) (hl : ns.length ≤ 50) (hcv : cellV ns (t + 1) (WS.length : Nat) = 1) :
    ∃ t', t ≤ t' ∧ t' ≤ t + 100 ∧ ∀ u post ml, Cal G c ((u, .urn ns t) :: post) ml (.ref 304) [.urn u, .d (.list (WS.map wordD))] (.d (.bool true)) ((u, .urn ns t') :: post) := by
  obtain ⟨a, ha, ea⟩ := cell_cases (ns := ns) (t := t + 1 + 1) 6 (by decide)
  have ea : cellV ns (t + 1 + 1) 6 = (a : Int) := ea
  have hrow : rowN ns false (.str (Str.ofString "placeindex")) (.str (Str.ofString "here")) (Str.ofString "n") (t + 1 + 1) (Str.ofString "n").cps.size = (.str (Str.ofString "placeindex") :: [.int (cellV ns (t + 1 + 1) 6 - 1)], t + 1 + 1 + 1) := by kernel_rfl
  rw [ea] at hrow
  exact right_mid I ok hout (wd := Str.ofString "placeindex") (psL := Str.ofString "n") (n1 := Str.ofString "1") (n2 := Str.ofString "1") (hasL := false) (i1 := 1) (i2 := 1) h0 hbt hl (by rw [hcv]; rfl) (by kernel_rfl) (by decide) (by kernel_rfl) (by decide) (by kernel_rfl) (fun _ _ h => nomatch h) hrow (by decide) (mid_placeindex I ha) (fun _ => by kernel_rfl)
noncomputable def rest_op (a b : Nat) : List PyData := [.str (Str.ofString "x"), .str (Str.ofString "x"), .list (abc.take a), .int (((abc.take a).length : Int) + bump (b : Int))]
noncomputable def row_op (a b : Nat) (n : Int) : RowD := ⟨Str.ofString "op", [.str (Str.ofString "x"), .str (Str.ofString "x"), .list (abc.take a), .int (((abc.take a).length : Int) + bump (b : Int))], 0, 1, Str.ofString "---n", none, none, false, [(((abc.take a).length : Int) + bump (b : Int))], (some (abc.take a).length), [], none⟩
theorem chk_op : ∀ (a : Fin 4) (b : Fin 4), chk (Str.ofString "op") (Str.ofString "xxln") (rest_op a.val b.val) [(((abc.take a.val).length : Int) + bump ((b.val : Nat) : Int))] [] 0 (row_op a.val b.val 0) = true := by decide +kernel
theorem mid_op (I : G.Is) {a b : Nat} (ha : a < 4) (hb : b < 4) : Mid G (Str.ofString "op") (Str.ofString "xxln") 0 1 (rest_op a b) [(((abc.take a).length : Int) + bump (b : Int))] [] (row_op a b) false :=
  mid_mk (tk_of (lay_row (lay_lit "op") (lay_c (lay_lit "x") (lay_c (lay_lit "x") (lay_c (lay_abc a) (lay_c (lay_i _) rfl))))) (by kernel_rfl) (by decide) (by kernel_rfl) (by kernel_rfl) (by kernel_rfl) (by simp) (by simp) (fun zs h => by unfold rest_op at h; simp at h; exact len_abc h) (.inl (by simp))) (fun _ => rfl) (fun _ => by kernel_rfl) (fun n => { W := wd_k I (wd := Str.ofString "op") (ps := Str.ofString "---n") (lay_lit "op") (by kernel_rfl) (by kernel_rfl) (by decide) (by kernel_rfl), R := rowok_b (by kernel_rfl), V := lv_k I (by kernel_rfl) (by kernel_rfl) (by kernel_rfl), X := (show Wx (Str.ofString "op") from ⟨by decide, by decide, by decide, by decide, by decide, by decide⟩), C := { cs := by kernel_rfl, nsl := by simp [row_op], c1 := cnt_k I (k := 3) (zs := abc.take a) (by kernel_rfl) (by decide) (by decide) rfl rfl (len_abc rfl), t1 := tru_k I (ats := []) (by kernel_rfl) (by decide) rfl (fun i hi => absurd hi (Nat.not_lt_zero _)), d1 := by kernel_rfl, d2 := fun _ h => (nomatch h), need := fun h => by simp [row_op] }, lay := (lay_row (lay_lit "op") (lay_c (lay_lit "x") (lay_c (lay_lit "x") (lay_c (lay_abc a) (lay_c (lay_i _) rfl))))) }) (fun _ => rfl) (by decide) (fun _ => by kernel_rfl) (fun _ => rfl) (fun _ => rfl) (fun _ => by kernel_rfl) (by kernel_rfl) (fun _ => ⟨by kernel_rfl, by kernel_rfl⟩) (chk_op ⟨a, ha⟩ ⟨b, hb⟩)
theorem turn_op (I : G.Is) (ok : c.Ok G 20) (hout : c.outer = []) {ns : List Int} {t : Int} (h0 : 0 ≤ t) (hbt : t ≤ 1000) (hl : ns.length ≤ 50) (hcv : cellV ns (t + 1) (WS.length : Nat) = 2) :
    ∃ t', t ≤ t' ∧ t' ≤ t + 100 ∧ ∀ u post ml, Cal G c ((u, .urn ns t) :: post) ml (.ref 304) [.urn u, .d (.list (WS.map wordD))] (.d (.bool true)) ((u, .urn ns t') :: post) := by
  obtain ⟨a, ha, ea⟩ := cell_cases (ns := ns) (t := t + 1 + 1) 4 (by decide)
  have ea : cellV ns (t + 1 + 1) 4 = (a : Int) := ea
  obtain ⟨b, hb, eb⟩ := cell_cases (ns := ns) (t := t + 1 + 1 + 1) 4 (by decide)
  have eb : cellV ns (t + 1 + 1 + 1) 4 = (b : Int) := eb
  have hrow : rowN ns true (.str (Str.ofString "op")) (.str (Str.ofString "here")) (Str.ofString "xxln") (t + 1 + 1) (Str.ofString "xxln").cps.size = (.str (Str.ofString "op") :: [.str (Str.ofString "x"), .str (Str.ofString "x"), .list (abc.take (cellV ns (t + 1 + 1) 4).toNat), .int (((abc.take (cellV ns (t + 1 + 1) 4).toNat).length : Int) + bump (cellV ns (t + 1 + 1 + 1) 4))], t + 1 + 1 + 1 + 1) := by kernel_rfl
  rw [ea, eb] at hrow
  exact right_mid I ok hout (wd := Str.ofString "op") (psL := Str.ofString "xxln") (n1 := Str.ofString "0") (n2 := Str.ofString "1") (hasL := true) (i1 := 0) (i2 := 1) h0 hbt hl (by rw [hcv]; rfl) (by kernel_rfl) (by decide) (by kernel_rfl) (by decide) (by kernel_rfl) (fun i hi _ => by
    obtain ⟨hlt, _⟩ := Array.getElem?_eq_some_iff.mp hi
    have hlt : i < 4 := hlt
    rcases (by omega : i = 0 ∨ i = 1 ∨ i = 2 ∨ i = 3) with rfl | rfl | rfl | rfl
    · exact absurd hi (by decide)
    · exact absurd hi (by decide)
    · exact absurd hi (by decide)
    · exact ⟨[.str (Str.ofString "op"), .str (Str.ofString "x"), .str (Str.ofString "x")], abc.take (cellV ns (t + 1 + 1) 4).toNat, by kernel_rfl, len_abc rfl⟩) hrow (by decide) (mid_op I ha hb) (fun _ => by kernel_rfl)
noncomputable def rest_attrof (a : Nat) : List PyData := [.str (Str.ofString "x"), .str (Str.ofString "x"), .int ((a : Int) - 1)]
noncomputable def row_attrof (a : Nat) (n : Int) : RowD := ⟨Str.ofString "attrof", [.str (Str.ofString "x"), .str (Str.ofString "x"), .int ((a : Int) - 1)], 1, 1, Str.ofString "--n", none, none, false, [((a : Int) - 1)], none, [], none⟩
theorem chk_attrof : ∀ (a : Fin 6), chk (Str.ofString "attrof") (Str.ofString "xxn") (rest_attrof a.val) [(((a.val : Nat) : Int) - 1)] [] 1 (row_attrof a.val 0) = true := by decide +kernel
theorem mid_attrof (I : G.Is) {a : Nat} (ha : a < 6) : Mid G (Str.ofString "attrof") (Str.ofString "xxn") 1 1 (rest_attrof a) [((a : Int) - 1)] [] (row_attrof a) false :=
  mid_mk (tk_of (lay_row (lay_lit "attrof") (lay_c (lay_lit "x") (lay_c (lay_lit "x") (lay_c (lay_i _) rfl)))) (by kernel_rfl) (by decide) (by kernel_rfl) (by kernel_rfl) (by kernel_rfl) (by simp) (by simp) (fun zs h => by unfold rest_attrof at h; simp at h) (.inl (by simp))) (fun _ => rfl) (fun _ => by kernel_rfl) (fun n => { W := wd_k I (wd := Str.ofString "attrof") (ps := Str.ofString "--n") (lay_lit "attrof") (by kernel_rfl) (by kernel_rfl) (by decide) (by kernel_rfl), R := rowok_b (by kernel_rfl), V := lv_k I (by kernel_rfl) (by kernel_rfl) (by kernel_rfl), X := (show Wx (Str.ofString "attrof") from ⟨by decide, by decide, by decide, by decide, by decide, by decide⟩), C := { cs := by kernel_rfl, nsl := by simp [row_attrof], c1 := ⟨none, by rw [I.K]; kernel_rfl, rfl⟩, t1 := tru_k I (ats := []) (by kernel_rfl) (by decide) rfl (fun i hi => absurd hi (Nat.not_lt_zero _)), d1 := by kernel_rfl, d2 := fun _ h => (nomatch h), need := fun h => by simp [row_attrof] }, lay := (lay_row (lay_lit "attrof") (lay_c (lay_lit "x") (lay_c (lay_lit "x") (lay_c (lay_i _) rfl)))) }) (fun _ => rfl) (by decide) (fun _ => by kernel_rfl) (fun _ => rfl) (fun _ => rfl) (fun _ => by kernel_rfl) (by kernel_rfl) (fun _ => ⟨by kernel_rfl, by kernel_rfl⟩) (chk_attrof ⟨a, ha⟩)
theorem turn_attrof (I : G.Is) (ok : c.Ok G 20) (hout : c.outer = []) {ns : List Int} {t : Int} (h0 : 0 ≤ t) (hbt : t ≤ 1000) (hl : ns.length ≤ 50) (hcv : cellV ns (t + 1) (WS.length : Nat) = 3) :
    ∃ t', t ≤ t' ∧ t' ≤ t + 100 ∧ ∀ u post ml, Cal G c ((u, .urn ns t) :: post) ml (.ref 304) [.urn u, .d (.list (WS.map wordD))] (.d (.bool true)) ((u, .urn ns t') :: post) := by
  obtain ⟨a, ha, ea⟩ := cell_cases (ns := ns) (t := t + 1 + 1) 6 (by decide)
  have ea : cellV ns (t + 1 + 1) 6 = (a : Int) := ea
  have hrow : rowN ns false (.str (Str.ofString "attrof")) (.str (Str.ofString "here")) (Str.ofString "xxn") (t + 1 + 1) (Str.ofString "xxn").cps.size = (.str (Str.ofString "attrof") :: [.str (Str.ofString "x"), .str (Str.ofString "x"), .int (cellV ns (t + 1 + 1) 6 - 1)], t + 1 + 1 + 1) := by kernel_rfl
  rw [ea] at hrow
  exact right_mid I ok hout (wd := Str.ofString "attrof") (psL := Str.ofString "xxn") (n1 := Str.ofString "1") (n2 := Str.ofString "1") (hasL := false) (i1 := 1) (i2 := 1) h0 hbt hl (by rw [hcv]; rfl) (by kernel_rfl) (by decide) (by kernel_rfl) (by decide) (by kernel_rfl) (fun _ _ h => nomatch h) hrow (by decide) (mid_attrof I ha) (fun _ => by kernel_rfl)
noncomputable def rest_taskattr (a : Nat) : List PyData := [.str (Str.ofString "x"), .str (Str.ofString "x"), .int ((a : Int) - 1)]
noncomputable def row_taskattr (a : Nat) (n : Int) : RowD := ⟨Str.ofString "taskattr", [.str (Str.ofString "x"), .str (Str.ofString "x"), .int ((a : Int) - 1)], 0, 1, Str.ofString "--n", none, none, false, [((a : Int) - 1)], none, [], none⟩
theorem chk_taskattr : ∀ (a : Fin 6), chk (Str.ofString "taskattr") (Str.ofString "xxn") (rest_taskattr a.val) [(((a.val : Nat) : Int) - 1)] [] 0 (row_taskattr a.val 0) = true := by decide +kernel
theorem mid_taskattr (I : G.Is) {a : Nat} (ha : a < 6) : Mid G (Str.ofString "taskattr") (Str.ofString "xxn") 0 1 (rest_taskattr a) [((a : Int) - 1)] [] (row_taskattr a) false :=
  mid_mk (tk_of (lay_row (lay_lit "taskattr") (lay_c (lay_lit "x") (lay_c (lay_lit "x") (lay_c (lay_i _) rfl)))) (by kernel_rfl) (by decide) (by kernel_rfl) (by kernel_rfl) (by kernel_rfl) (by simp) (by simp) (fun zs h => by unfold rest_taskattr at h; simp at h) (.inl (by simp))) (fun _ => rfl) (fun _ => by kernel_rfl) (fun n => { W := wd_k I (wd := Str.ofString "taskattr") (ps := Str.ofString "--n") (lay_lit "taskattr") (by kernel_rfl) (by kernel_rfl) (by decide) (by kernel_rfl), R := rowok_b (by kernel_rfl), V := lv_k I (by kernel_rfl) (by kernel_rfl) (by kernel_rfl), X := (show Wx (Str.ofString "taskattr") from ⟨by decide, by decide, by decide, by decide, by decide, by decide⟩), C := { cs := by kernel_rfl, nsl := by simp [row_taskattr], c1 := ⟨none, by rw [I.K]; kernel_rfl, rfl⟩, t1 := tru_k I (ats := []) (by kernel_rfl) (by decide) rfl (fun i hi => absurd hi (Nat.not_lt_zero _)), d1 := by kernel_rfl, d2 := fun _ h => (nomatch h), need := fun h => by simp [row_taskattr] }, lay := (lay_row (lay_lit "taskattr") (lay_c (lay_lit "x") (lay_c (lay_lit "x") (lay_c (lay_i _) rfl)))) }) (fun _ => rfl) (by decide) (fun _ => by kernel_rfl) (fun _ => rfl) (fun _ => rfl) (fun _ => by kernel_rfl) (by kernel_rfl) (fun _ => ⟨by kernel_rfl, by kernel_rfl⟩) (chk_taskattr ⟨a, ha⟩)
theorem turn_taskattr (I : G.Is) (ok : c.Ok G 20) (hout : c.outer = []) {ns : List Int} {t : Int} (h0 : 0 ≤ t) (hbt : t ≤ 1000) (hl : ns.length ≤ 50) (hcv : cellV ns (t + 1) (WS.length : Nat) = 4) :
    ∃ t', t ≤ t' ∧ t' ≤ t + 100 ∧ ∀ u post ml, Cal G c ((u, .urn ns t) :: post) ml (.ref 304) [.urn u, .d (.list (WS.map wordD))] (.d (.bool true)) ((u, .urn ns t') :: post) := by
  obtain ⟨a, ha, ea⟩ := cell_cases (ns := ns) (t := t + 1 + 1) 6 (by decide)
  have ea : cellV ns (t + 1 + 1) 6 = (a : Int) := ea
  have hrow : rowN ns false (.str (Str.ofString "taskattr")) (.str (Str.ofString "here")) (Str.ofString "xxn") (t + 1 + 1) (Str.ofString "xxn").cps.size = (.str (Str.ofString "taskattr") :: [.str (Str.ofString "x"), .str (Str.ofString "x"), .int (cellV ns (t + 1 + 1) 6 - 1)], t + 1 + 1 + 1) := by kernel_rfl
  rw [ea] at hrow
  exact right_mid I ok hout (wd := Str.ofString "taskattr") (psL := Str.ofString "xxn") (n1 := Str.ofString "0") (n2 := Str.ofString "1") (hasL := false) (i1 := 0) (i2 := 1) h0 hbt hl (by rw [hcv]; rfl) (by kernel_rfl) (by decide) (by kernel_rfl) (by decide) (by kernel_rfl) (fun _ _ h => nomatch h) hrow (by decide) (mid_taskattr I ha) (fun _ => by kernel_rfl)
noncomputable def rest_recordof (a b : Nat) : List PyData := [.str (Str.ofString "x"), .list (abc.take a), .int (((abc.take a).length : Int) + bump (b : Int))]
noncomputable def row_recordof (a b : Nat) (n : Int) : RowD := ⟨Str.ofString "recordof", [.str (Str.ofString "x"), .list (abc.take a), .int (((abc.take a).length : Int) + bump (b : Int))], 0, 1, Str.ofString "--n", none, none, false, [(((abc.take a).length : Int) + bump (b : Int))], (some (abc.take a).length), [], none⟩
theorem chk_recordof : ∀ (a : Fin 4) (b : Fin 4), chk (Str.ofString "recordof") (Str.ofString "xln") (rest_recordof a.val b.val) [(((abc.take a.val).length : Int) + bump ((b.val : Nat) : Int))] [] 0 (row_recordof a.val b.val 0) = true := by decide +kernel
theorem mid_recordof (I : G.Is) {a b : Nat} (ha : a < 4) (hb : b < 4) : Mid G (Str.ofString "recordof") (Str.ofString "xln") 0 1 (rest_recordof a b) [(((abc.take a).length : Int) + bump (b : Int))] [] (row_recordof a b) false :=
  mid_mk (tk_of (lay_row (lay_lit "recordof") (lay_c (lay_lit "x") (lay_c (lay_abc a) (lay_c (lay_i _) rfl)))) (by kernel_rfl) (by decide) (by kernel_rfl) (by kernel_rfl) (by kernel_rfl) (by simp) (by simp) (fun zs h => by unfold rest_recordof at h; simp at h; exact len_abc h) (.inl (by simp))) (fun _ => rfl) (fun _ => by kernel_rfl) (fun n => { W := wd_k I (wd := Str.ofString "recordof") (ps := Str.ofString "--n") (lay_lit "recordof") (by kernel_rfl) (by kernel_rfl) (by decide) (by kernel_rfl), R := rowok_b (by kernel_rfl), V := lv_k I (by kernel_rfl) (by kernel_rfl) (by kernel_rfl), X := (show Wx (Str.ofString "recordof") from ⟨by decide, by decide, by decide, by decide, by decide, by decide⟩), C := { cs := by kernel_rfl, nsl := by simp [row_recordof], c1 := cnt_k I (k := 2) (zs := abc.take a) (by kernel_rfl) (by decide) (by decide) rfl rfl (len_abc rfl), t1 := tru_k I (ats := []) (by kernel_rfl) (by decide) rfl (fun i hi => absurd hi (Nat.not_lt_zero _)), d1 := by kernel_rfl, d2 := fun _ h => (nomatch h), need := fun h => by simp [row_recordof] }, lay := (lay_row (lay_lit "recordof") (lay_c (lay_lit "x") (lay_c (lay_abc a) (lay_c (lay_i _) rfl)))) }) (fun _ => rfl) (by decide) (fun _ => by kernel_rfl) (fun _ => rfl) (fun _ => rfl) (fun _ => by kernel_rfl) (by kernel_rfl) (fun _ => ⟨by kernel_rfl, by kernel_rfl⟩) (chk_recordof ⟨a, ha⟩ ⟨b, hb⟩)
theorem turn_recordof (I : G.Is) (ok : c.Ok G 20) (hout : c.outer = []) {ns : List Int} {t : Int} (h0 : 0 ≤ t) (hbt : t ≤ 1000) (hl : ns.length ≤ 50) (hcv : cellV ns (t + 1) (WS.length : Nat) = 5) :
    ∃ t', t ≤ t' ∧ t' ≤ t + 100 ∧ ∀ u post ml, Cal G c ((u, .urn ns t) :: post) ml (.ref 304) [.urn u, .d (.list (WS.map wordD))] (.d (.bool true)) ((u, .urn ns t') :: post) := by
  obtain ⟨a, ha, ea⟩ := cell_cases (ns := ns) (t := t + 1 + 1) 4 (by decide)
  have ea : cellV ns (t + 1 + 1) 4 = (a : Int) := ea
  obtain ⟨b, hb, eb⟩ := cell_cases (ns := ns) (t := t + 1 + 1 + 1) 4 (by decide)
  have eb : cellV ns (t + 1 + 1 + 1) 4 = (b : Int) := eb
  have hrow : rowN ns true (.str (Str.ofString "recordof")) (.str (Str.ofString "here")) (Str.ofString "xln") (t + 1 + 1) (Str.ofString "xln").cps.size = (.str (Str.ofString "recordof") :: [.str (Str.ofString "x"), .list (abc.take (cellV ns (t + 1 + 1) 4).toNat), .int (((abc.take (cellV ns (t + 1 + 1) 4).toNat).length : Int) + bump (cellV ns (t + 1 + 1 + 1) 4))], t + 1 + 1 + 1 + 1) := by kernel_rfl
  rw [ea, eb] at hrow
  exact right_mid I ok hout (wd := Str.ofString "recordof") (psL := Str.ofString "xln") (n1 := Str.ofString "0") (n2 := Str.ofString "1") (hasL := true) (i1 := 0) (i2 := 1) h0 hbt hl (by rw [hcv]; rfl) (by kernel_rfl) (by decide) (by kernel_rfl) (by decide) (by kernel_rfl) (fun i hi _ => by
    obtain ⟨hlt, _⟩ := Array.getElem?_eq_some_iff.mp hi
    have hlt : i < 3 := hlt
    rcases (by omega : i = 0 ∨ i = 1 ∨ i = 2) with rfl | rfl | rfl
    · exact absurd hi (by decide)
    · exact absurd hi (by decide)
    · exact ⟨[.str (Str.ofString "recordof"), .str (Str.ofString "x")], abc.take (cellV ns (t + 1 + 1) 4).toNat, by kernel_rfl, len_abc rfl⟩) hrow (by decide) (mid_recordof I ha hb) (fun _ => by kernel_rfl)
noncomputable def rest_extendof (a b : Nat) : List PyData := [.str (Str.ofString "x"), .list (abc.take a), .int (((abc.take a).length : Int) + bump (b : Int))]
noncomputable def row_extendof (a b : Nat) (n : Int) : RowD := ⟨Str.ofString "extendof", [.str (Str.ofString "x"), .list (abc.take a), .int (((abc.take a).length : Int) + bump (b : Int))], 1, 1, Str.ofString "--n", none, none, false, [(((abc.take a).length : Int) + bump (b : Int))], (some (abc.take a).length), [], none⟩
theorem chk_extendof : ∀ (a : Fin 4) (b : Fin 4), chk (Str.ofString "extendof") (Str.ofString "xln") (rest_extendof a.val b.val) [(((abc.take a.val).length : Int) + bump ((b.val : Nat) : Int))] [] 1 (row_extendof a.val b.val 0) = true := by decide +kernel
theorem mid_extendof (I : G.Is) {a b : Nat} (ha : a < 4) (hb : b < 4) : Mid G (Str.ofString "extendof") (Str.ofString "xln") 1 1 (rest_extendof a b) [(((abc.take a).length : Int) + bump (b : Int))] [] (row_extendof a b) false :=
  mid_mk (tk_of (lay_row (lay_lit "extendof") (lay_c (lay_lit "x") (lay_c (lay_abc a) (lay_c (lay_i _) rfl)))) (by kernel_rfl) (by decide) (by kernel_rfl) (by kernel_rfl) (by kernel_rfl) (by simp) (by simp) (fun zs h => by unfold rest_extendof at h; simp at h; exact len_abc h) (.inl (by simp))) (fun _ => rfl) (fun _ => by kernel_rfl) (fun n => { W := wd_k I (wd := Str.ofString "extendof") (ps := Str.ofString "--n") (lay_lit "extendof") (by kernel_rfl) (by kernel_rfl) (by decide) (by kernel_rfl), R := rowok_b (by kernel_rfl), V := lv_k I (by kernel_rfl) (by kernel_rfl) (by kernel_rfl), X := (show Wx (Str.ofString "extendof") from ⟨by decide, by decide, by decide, by decide, by decide, by decide⟩), C := { cs := by kernel_rfl, nsl := by simp [row_extendof], c1 := cnt_k I (k := 2) (zs := abc.take a) (by kernel_rfl) (by decide) (by decide) rfl rfl (len_abc rfl), t1 := tru_k I (ats := []) (by kernel_rfl) (by decide) rfl (fun i hi => absurd hi (Nat.not_lt_zero _)), d1 := by kernel_rfl, d2 := fun _ h => (nomatch h), need := fun h => by simp [row_extendof] }, lay := (lay_row (lay_lit "extendof") (lay_c (lay_lit "x") (lay_c (lay_abc a) (lay_c (lay_i _) rfl)))) }) (fun _ => rfl) (by decide) (fun _ => by kernel_rfl) (fun _ => rfl) (fun _ => rfl) (fun _ => by kernel_rfl) (by kernel_rfl) (fun _ => ⟨by kernel_rfl, by kernel_rfl⟩) (chk_extendof ⟨a, ha⟩ ⟨b, hb⟩)
theorem turn_extendof (I : G.Is) (ok : c.Ok G 20) (hout : c.outer = []) {ns : List Int} {t : Int} (h0 : 0 ≤ t) (hbt : t ≤ 1000) (hl : ns.length ≤ 50) (hcv : cellV ns (t + 1) (WS.length : Nat) = 6) :
    ∃ t', t ≤ t' ∧ t' ≤ t + 100 ∧ ∀ u post ml, Cal G c ((u, .urn ns t) :: post) ml (.ref 304) [.urn u, .d (.list (WS.map wordD))] (.d (.bool true)) ((u, .urn ns t') :: post) := by
  obtain ⟨a, ha, ea⟩ := cell_cases (ns := ns) (t := t + 1 + 1) 4 (by decide)
  have ea : cellV ns (t + 1 + 1) 4 = (a : Int) := ea
  obtain ⟨b, hb, eb⟩ := cell_cases (ns := ns) (t := t + 1 + 1 + 1) 4 (by decide)
  have eb : cellV ns (t + 1 + 1 + 1) 4 = (b : Int) := eb
  have hrow : rowN ns true (.str (Str.ofString "extendof")) (.str (Str.ofString "here")) (Str.ofString "xln") (t + 1 + 1) (Str.ofString "xln").cps.size = (.str (Str.ofString "extendof") :: [.str (Str.ofString "x"), .list (abc.take (cellV ns (t + 1 + 1) 4).toNat), .int (((abc.take (cellV ns (t + 1 + 1) 4).toNat).length : Int) + bump (cellV ns (t + 1 + 1 + 1) 4))], t + 1 + 1 + 1 + 1) := by kernel_rfl
  rw [ea, eb] at hrow
  exact right_mid I ok hout (wd := Str.ofString "extendof") (psL := Str.ofString "xln") (n1 := Str.ofString "1") (n2 := Str.ofString "1") (hasL := true) (i1 := 1) (i2 := 1) h0 hbt hl (by rw [hcv]; rfl) (by kernel_rfl) (by decide) (by kernel_rfl) (by decide) (by kernel_rfl) (fun i hi _ => by
    obtain ⟨hlt, _⟩ := Array.getElem?_eq_some_iff.mp hi
    have hlt : i < 3 := hlt
    rcases (by omega : i = 0 ∨ i = 1 ∨ i = 2) with rfl | rfl | rfl
    · exact absurd hi (by decide)
    · exact absurd hi (by decide)
    · exact ⟨[.str (Str.ofString "extendof"), .str (Str.ofString "x")], abc.take (cellV ns (t + 1 + 1) 4).toNat, by kernel_rfl, len_abc rfl⟩) hrow (by decide) (mid_extendof I ha hb) (fun _ => by kernel_rfl)
noncomputable def rest_callf (a : Nat) : List PyData := [.str (Str.ofString "x"), .str (Str.ofString "x"), .int ((a : Int) - 1)]
noncomputable def row_callf (a : Nat) (n : Int) : RowD := ⟨Str.ofString "callf", [.str (Str.ofString "x"), .str (Str.ofString "x"), .int ((a : Int) - 1)], 0, 1, Str.ofString "--n", none, none, false, [((a : Int) - 1)], none, [], none⟩
theorem chk_callf : ∀ (a : Fin 6), chk (Str.ofString "callf") (Str.ofString "xxn") (rest_callf a.val) [(((a.val : Nat) : Int) - 1)] [] 0 (row_callf a.val 0) = true := by decide +kernel
theorem mid_callf (I : G.Is) {a : Nat} (ha : a < 6) : Mid G (Str.ofString "callf") (Str.ofString "xxn") 0 1 (rest_callf a) [((a : Int) - 1)] [] (row_callf a) false :=
  mid_mk (tk_of (lay_row (lay_lit "callf") (lay_c (lay_lit "x") (lay_c (lay_lit "x") (lay_c (lay_i _) rfl)))) (by kernel_rfl) (by decide) (by kernel_rfl) (by kernel_rfl) (by kernel_rfl) (by simp) (by simp) (fun zs h => by unfold rest_callf at h; simp at h) (.inl (by simp))) (fun _ => rfl) (fun _ => by kernel_rfl) (fun n => { W := wd_k I (wd := Str.ofString "callf") (ps := Str.ofString "--n") (lay_lit "callf") (by kernel_rfl) (by kernel_rfl) (by decide) (by kernel_rfl), R := rowok_b (by kernel_rfl), V := lv_k I (by kernel_rfl) (by kernel_rfl) (by kernel_rfl), X := (show Wx (Str.ofString "callf") from ⟨by decide, by decide, by decide, by decide, by decide, by decide⟩), C := { cs := by kernel_rfl, nsl := by simp [row_callf], c1 := ⟨none, by rw [I.K]; kernel_rfl, rfl⟩, t1 := tru_k I (ats := []) (by kernel_rfl) (by decide) rfl (fun i hi => absurd hi (Nat.not_lt_zero _)), d1 := by kernel_rfl, d2 := fun _ h => (nomatch h), need := fun h => by simp [row_callf] }, lay := (lay_row (lay_lit "callf") (lay_c (lay_lit "x") (lay_c (lay_lit "x") (lay_c (lay_i _) rfl)))) }) (fun _ => rfl) (by decide) (fun _ => by kernel_rfl) (fun _ => rfl) (fun _ => rfl) (fun _ => by kernel_rfl) (by kernel_rfl) (fun _ => ⟨by kernel_rfl, by kernel_rfl⟩) (chk_callf ⟨a, ha⟩)
theorem turn_callf (I : G.Is) (ok : c.Ok G 20) (hout : c.outer = []) {ns : List Int} {t : Int} (h0 : 0 ≤ t) (hbt : t ≤ 1000) (hl : ns.length ≤ 50) (hcv : cellV ns (t + 1) (WS.length : Nat) = 7) :
    ∃ t', t ≤ t' ∧ t' ≤ t + 100 ∧ ∀ u post ml, Cal G c ((u, .urn ns t) :: post) ml (.ref 304) [.urn u, .d (.list (WS.map wordD))] (.d (.bool true)) ((u, .urn ns t') :: post) := by
  obtain ⟨a, ha, ea⟩ := cell_cases (ns := ns) (t := t + 1 + 1) 6 (by decide)
  have ea : cellV ns (t + 1 + 1) 6 = (a : Int) := ea
  have hrow : rowN ns false (.str (Str.ofString "callf")) (.str (Str.ofString "here")) (Str.ofString "xxn") (t + 1 + 1) (Str.ofString "xxn").cps.size = (.str (Str.ofString "callf") :: [.str (Str.ofString "x"), .str (Str.ofString "x"), .int (cellV ns (t + 1 + 1) 6 - 1)], t + 1 + 1 + 1) := by kernel_rfl
  rw [ea] at hrow
  exact right_mid I ok hout (wd := Str.ofString "callf") (psL := Str.ofString "xxn") (n1 := Str.ofString "0") (n2 := Str.ofString "1") (hasL := false) (i1 := 0) (i2 := 1) h0 hbt hl (by rw [hcv]; rfl) (by kernel_rfl) (by decide) (by kernel_rfl) (by decide) (by kernel_rfl) (fun _ _ h => nomatch h) hrow (by decide) (mid_callf I ha) (fun _ => by kernel_rfl)
noncomputable def rest_dispatchf (a b : Nat) : List PyData := [.str (Str.ofString "x"), .int ((a : Int) - 1), .int ((b : Int) - 1)]
noncomputable def row_dispatchf (a b : Nat) (n : Int) : RowD := ⟨Str.ofString "dispatchf", [.str (Str.ofString "x"), .int ((a : Int) - 1), .int ((b : Int) - 1)], 0, 1, Str.ofString "--n", none, none, false, [((b : Int) - 1)], none, [], (some ((a : Int) - 1))⟩
theorem chk_dispatchf : ∀ (a : Fin 5) (b : Fin 6), chk (Str.ofString "dispatchf") (Str.ofString "xin") (rest_dispatchf a.val b.val) [(((b.val : Nat) : Int) - 1)] [] 0 (row_dispatchf a.val b.val 0) = true := by decide +kernel
theorem mid_dispatchf (I : G.Is) {a b : Nat} (ha : a < 5) (hb : b < 6) : Mid G (Str.ofString "dispatchf") (Str.ofString "xin") 0 1 (rest_dispatchf a b) [((b : Int) - 1)] [] (row_dispatchf a b) false :=
  mid_mk (tk_of (lay_row (lay_lit "dispatchf") (lay_c (lay_lit "x") (lay_c (lay_i _) (lay_c (lay_i _) rfl)))) (by kernel_rfl) (by decide) (by kernel_rfl) (by kernel_rfl) (by kernel_rfl) (by simp) (by simp) (fun zs h => by unfold rest_dispatchf at h; simp at h) (.inl (by simp))) (fun _ => rfl) (fun _ => by kernel_rfl) (fun n => { W := wd_k I (wd := Str.ofString "dispatchf") (ps := Str.ofString "--n") (lay_lit "dispatchf") (by kernel_rfl) (by kernel_rfl) (by decide) (by kernel_rfl), R := rowok_b (by kernel_rfl), V := lv_k I (by kernel_rfl) (by kernel_rfl) (by kernel_rfl), X := (show Wx (Str.ofString "dispatchf") from ⟨by decide, by decide, by decide, by decide, by decide, by decide⟩), C := { cs := by kernel_rfl, nsl := by simp [row_dispatchf], c1 := ⟨none, by rw [I.K]; kernel_rfl, rfl⟩, t1 := tru_k I (ats := []) (by kernel_rfl) (by decide) rfl (fun i hi => absurd hi (Nat.not_lt_zero _)), d1 := by kernel_rfl, d2 := fun _ h => by cases h; rfl, need := fun h => by simp [row_dispatchf] }, lay := (lay_row (lay_lit "dispatchf") (lay_c (lay_lit "x") (lay_c (lay_i _) (lay_c (lay_i _) rfl)))) }) (fun _ => rfl) (by decide) (fun _ => by kernel_rfl) (fun _ => rfl) (fun _ => rfl) (fun _ => by kernel_rfl) (by kernel_rfl) (fun _ => ⟨by kernel_rfl, by kernel_rfl⟩) (chk_dispatchf ⟨a, ha⟩ ⟨b, hb⟩)
theorem turn_dispatchf (I : G.Is) (ok : c.Ok G 20) (hout : c.outer = []) {ns : List Int} {t : Int} (h0 : 0 ≤ t) (hbt : t ≤ 1000) (hl : ns.length ≤ 50) (hcv : cellV ns (t + 1) (WS.length : Nat) = 8) :
    ∃ t', t ≤ t' ∧ t' ≤ t + 100 ∧ ∀ u post ml, Cal G c ((u, .urn ns t) :: post) ml (.ref 304) [.urn u, .d (.list (WS.map wordD))] (.d (.bool true)) ((u, .urn ns t') :: post) := by
  obtain ⟨a, ha, ea⟩ := cell_cases (ns := ns) (t := t + 1 + 1) 5 (by decide)
  have ea : cellV ns (t + 1 + 1) 5 = (a : Int) := ea
  obtain ⟨b, hb, eb⟩ := cell_cases (ns := ns) (t := t + 1 + 1 + 1) 6 (by decide)
  have eb : cellV ns (t + 1 + 1 + 1) 6 = (b : Int) := eb
  have hrow : rowN ns false (.str (Str.ofString "dispatchf")) (.str (Str.ofString "here")) (Str.ofString "xin") (t + 1 + 1) (Str.ofString "xin").cps.size = (.str (Str.ofString "dispatchf") :: [.str (Str.ofString "x"), .int (cellV ns (t + 1 + 1) 5 - 1), .int (cellV ns (t + 1 + 1 + 1) 6 - 1)], t + 1 + 1 + 1 + 1) := by kernel_rfl
  rw [ea, eb] at hrow
  exact right_mid I ok hout (wd := Str.ofString "dispatchf") (psL := Str.ofString "xin") (n1 := Str.ofString "0") (n2 := Str.ofString "1") (hasL := false) (i1 := 0) (i2 := 1) h0 hbt hl (by rw [hcv]; rfl) (by kernel_rfl) (by decide) (by kernel_rfl) (by decide) (by kernel_rfl) (fun _ _ h => nomatch h) hrow (by decide) (mid_dispatchf I ha hb) (fun _ => by kernel_rfl)
noncomputable def rest_protcall (a : Nat) : List PyData := [.str (Str.ofString "x"), .int ((a : Int) - 1)]
noncomputable def row_protcall (a : Nat) (n : Int) : RowD := ⟨Str.ofString "protcall", [.str (Str.ofString "x"), .int ((a : Int) - 1)], 1, 1, Str.ofString "-n", none, none, false, [((a : Int) - 1)], none, [], none⟩
theorem chk_protcall : ∀ (a : Fin 6), chk (Str.ofString "protcall") (Str.ofString "xn") (rest_protcall a.val) [(((a.val : Nat) : Int) - 1)] [] 1 (row_protcall a.val 0) = true := by decide +kernel
theorem mid_protcall (I : G.Is) {a : Nat} (ha : a < 6) : Mid G (Str.ofString "protcall") (Str.ofString "xn") 1 1 (rest_protcall a) [((a : Int) - 1)] [] (row_protcall a) false :=
  mid_mk (tk_of (lay_row (lay_lit "protcall") (lay_c (lay_lit "x") (lay_c (lay_i _) rfl))) (by kernel_rfl) (by decide) (by kernel_rfl) (by kernel_rfl) (by kernel_rfl) (by simp) (by simp) (fun zs h => by unfold rest_protcall at h; simp at h) (.inl (by simp))) (fun _ => rfl) (fun _ => by kernel_rfl) (fun n => { W := wd_k I (wd := Str.ofString "protcall") (ps := Str.ofString "-n") (lay_lit "protcall") (by kernel_rfl) (by kernel_rfl) (by decide) (by kernel_rfl), R := rowok_b (by kernel_rfl), V := lv_k I (by kernel_rfl) (by kernel_rfl) (by kernel_rfl), X := (show Wx (Str.ofString "protcall") from ⟨by decide, by decide, by decide, by decide, by decide, by decide⟩), C := { cs := by kernel_rfl, nsl := by simp [row_protcall], c1 := ⟨none, by rw [I.K]; kernel_rfl, rfl⟩, t1 := tru_k I (ats := []) (by kernel_rfl) (by decide) rfl (fun i hi => absurd hi (Nat.not_lt_zero _)), d1 := by kernel_rfl, d2 := fun _ h => (nomatch h), need := fun h => by simp [row_protcall] }, lay := (lay_row (lay_lit "protcall") (lay_c (lay_lit "x") (lay_c (lay_i _) rfl))) }) (fun _ => rfl) (by decide) (fun _ => by kernel_rfl) (fun _ => rfl) (fun _ => rfl) (fun _ => by kernel_rfl) (by kernel_rfl) (fun _ => ⟨by kernel_rfl, by kernel_rfl⟩) (chk_protcall ⟨a, ha⟩)
theorem turn_protcall (I : G.Is) (ok : c.Ok G 20) (hout : c.outer = []) {ns : List Int} {t : Int} (h0 : 0 ≤ t) (hbt : t ≤ 1000) (hl : ns.length ≤ 50) (hcv : cellV ns (t + 1) (WS.length : Nat) = 9) :
    ∃ t', t ≤ t' ∧ t' ≤ t + 100 ∧ ∀ u post ml, Cal G c ((u, .urn ns t) :: post) ml (.ref 304) [.urn u, .d (.list (WS.map wordD))] (.d (.bool true)) ((u, .urn ns t') :: post) := by
  obtain ⟨a, ha, ea⟩ := cell_cases (ns := ns) (t := t + 1 + 1) 6 (by decide)
  have ea : cellV ns (t + 1 + 1) 6 = (a : Int) := ea
  have hrow : rowN ns false (.str (Str.ofString "protcall")) (.str (Str.ofString "here")) (Str.ofString "xn") (t + 1 + 1) (Str.ofString "xn").cps.size = (.str (Str.ofString "protcall") :: [.str (Str.ofString "x"), .int (cellV ns (t + 1 + 1) 6 - 1)], t + 1 + 1 + 1) := by kernel_rfl
  rw [ea] at hrow
  exact right_mid I ok hout (wd := Str.ofString "protcall") (psL := Str.ofString "xn") (n1 := Str.ofString "1") (n2 := Str.ofString "1") (hasL := false) (i1 := 1) (i2 := 1) h0 hbt hl (by rw [hcv]; rfl) (by kernel_rfl) (by decide) (by kernel_rfl) (by decide) (by kernel_rfl) (fun _ _ h => nomatch h) hrow (by decide) (mid_protcall I ha) (fun _ => by kernel_rfl)
noncomputable def rest_callp (a : Nat) : List PyData := [.int ((a : Int) - 1)]
noncomputable def row_callp (a : Nat) (n : Int) : RowD := ⟨Str.ofString "callp", [.int ((a : Int) - 1)], 1, 0, Str.ofString "n", none, none, false, [((a : Int) - 1)], none, [], none⟩
theorem chk_callp : ∀ (a : Fin 6), chk (Str.ofString "callp") (Str.ofString "n") (rest_callp a.val) [(((a.val : Nat) : Int) - 1)] [] 1 (row_callp a.val 0) = true := by decide +kernel
theorem mid_callp (I : G.Is) {a : Nat} (ha : a < 6) : Mid G (Str.ofString "callp") (Str.ofString "n") 1 0 (rest_callp a) [((a : Int) - 1)] [] (row_callp a) false :=
  mid_mk (tk_of (lay_row (lay_lit "callp") (lay_c (lay_i _) rfl)) (by kernel_rfl) (by decide) (by kernel_rfl) (by kernel_rfl) (by kernel_rfl) (by simp) (by simp) (fun zs h => by unfold rest_callp at h; simp at h) (.inl (by simp))) (fun _ => rfl) (fun _ => by kernel_rfl) (fun n => { W := wd_k I (wd := Str.ofString "callp") (ps := Str.ofString "n") (lay_lit "callp") (by kernel_rfl) (by kernel_rfl) (by decide) (by kernel_rfl), R := rowok_b (by kernel_rfl), V := lv_k I (by kernel_rfl) (by kernel_rfl) (by kernel_rfl), X := (show Wx (Str.ofString "callp") from ⟨by decide, by decide, by decide, by decide, by decide, by decide⟩), C := { cs := by kernel_rfl, nsl := by simp [row_callp], c1 := ⟨none, by rw [I.K]; kernel_rfl, rfl⟩, t1 := tru_k I (ats := []) (by kernel_rfl) (by decide) rfl (fun i hi => absurd hi (Nat.not_lt_zero _)), d1 := by kernel_rfl, d2 := fun _ h => (nomatch h), need := fun h => by simp [row_callp] }, lay := (lay_row (lay_lit "callp") (lay_c (lay_i _) rfl)) }) (fun _ => rfl) (by decide) (fun _ => by kernel_rfl) (fun _ => rfl) (fun _ => rfl) (fun _ => by kernel_rfl) (by kernel_rfl) (fun _ => ⟨by kernel_rfl, by kernel_rfl⟩) (chk_callp ⟨a, ha⟩)
theorem turn_callp (I : G.Is) (ok : c.Ok G 20) (hout : c.outer = []) {ns : List Int} {t : Int} (h0 : 0 ≤ t) (hbt : t ≤ 1000) (hl : ns.length ≤ 50) (hcv : cellV ns (t + 1) (WS.length : Nat) = 10) :
    ∃ t', t ≤ t' ∧ t' ≤ t + 100 ∧ ∀ u post ml, Cal G c ((u, .urn ns t) :: post) ml (.ref 304) [.urn u, .d (.list (WS.map wordD))] (.d (.bool true)) ((u, .urn ns t') :: post) := by
  obtain ⟨a, ha, ea⟩ := cell_cases (ns := ns) (t := t + 1 + 1) 6 (by decide)
  have ea : cellV ns (t + 1 + 1) 6 = (a : Int) := ea
  have hrow : rowN ns false (.str (Str.ofString "callp")) (.str (Str.ofString "here")) (Str.ofString "n") (t + 1 + 1) (Str.ofString "n").cps.size = (.str (Str.ofString "callp") :: [.int (cellV ns (t + 1 + 1) 6 - 1)], t + 1 + 1 + 1) := by kernel_rfl
  rw [ea] at hrow
  exact right_mid I ok hout (wd := Str.ofString "callp") (psL := Str.ofString "n") (n1 := Str.ofString "1") (n2 := Str.ofString "0") (hasL := false) (i1 := 1) (i2 := 0) h0 hbt hl (by rw [hcv]; rfl) (by kernel_rfl) (by decide) (by kernel_rfl) (by decide) (by kernel_rfl) (fun _ _ h => nomatch h) hrow (by decide) (mid_callp I ha) (fun _ => by kernel_rfl)
noncomputable def rest_dispatchp (a b : Nat) : List PyData := [.str (Str.ofString "x"), .int ((a : Int) - 1), .int ((b : Int) - 1)]
noncomputable def row_dispatchp (a b : Nat) (n : Int) : RowD := ⟨Str.ofString "dispatchp", [.str (Str.ofString "x"), .int ((a : Int) - 1), .int ((b : Int) - 1)], 0, 0, Str.ofString "--n", none, none, false, [((b : Int) - 1)], none, [], (some ((a : Int) - 1))⟩
theorem chk_dispatchp : ∀ (a : Fin 5) (b : Fin 6), chk (Str.ofString "dispatchp") (Str.ofString "xin") (rest_dispatchp a.val b.val) [(((b.val : Nat) : Int) - 1)] [] 0 (row_dispatchp a.val b.val 0) = true := by decide +kernel
theorem mid_dispatchp (I : G.Is) {a b : Nat} (ha : a < 5) (hb : b < 6) : Mid G (Str.ofString "dispatchp") (Str.ofString "xin") 0 0 (rest_dispatchp a b) [((b : Int) - 1)] [] (row_dispatchp a b) false :=
  mid_mk (tk_of (lay_row (lay_lit "dispatchp") (lay_c (lay_lit "x") (lay_c (lay_i _) (lay_c (lay_i _) rfl)))) (by kernel_rfl) (by decide) (by kernel_rfl) (by kernel_rfl) (by kernel_rfl) (by simp) (by simp) (fun zs h => by unfold rest_dispatchp at h; simp at h) (.inl (by simp))) (fun _ => rfl) (fun _ => by kernel_rfl) (fun n => { W := wd_k I (wd := Str.ofString "dispatchp") (ps := Str.ofString "--n") (lay_lit "dispatchp") (by kernel_rfl) (by kernel_rfl) (by decide) (by kernel_rfl), R := rowok_b (by kernel_rfl), V := lv_k I (by kernel_rfl) (by kernel_rfl) (by kernel_rfl), X := (show Wx (Str.ofString "dispatchp") from ⟨by decide, by decide, by decide, by decide, by decide, by decide⟩), C := { cs := by kernel_rfl, nsl := by simp [row_dispatchp], c1 := ⟨none, by rw [I.K]; kernel_rfl, rfl⟩, t1 := tru_k I (ats := []) (by kernel_rfl) (by decide) rfl (fun i hi => absurd hi (Nat.not_lt_zero _)), d1 := by kernel_rfl, d2 := fun _ h => by cases h; rfl, need := fun h => by simp [row_dispatchp] }, lay := (lay_row (lay_lit "dispatchp") (lay_c (lay_lit "x") (lay_c (lay_i _) (lay_c (lay_i _) rfl)))) }) (fun _ => rfl) (by decide) (fun _ => by kernel_rfl) (fun _ => rfl) (fun _ => rfl) (fun _ => by kernel_rfl) (by kernel_rfl) (fun _ => ⟨by kernel_rfl, by kernel_rfl⟩) (chk_dispatchp ⟨a, ha⟩ ⟨b, hb⟩)
theorem turn_dispatchp (I : G.Is) (ok : c.Ok G 20) (hout : c.outer = []) {ns : List Int} {t : Int} (h0 : 0 ≤ t) (hbt : t ≤ 1000) (hl : ns.length ≤ 50) (hcv : cellV ns (t + 1) (WS.length : Nat) = 11) :
    ∃ t', t ≤ t' ∧ t' ≤ t + 100 ∧ ∀ u post ml, Cal G c ((u, .urn ns t) :: post) ml (.ref 304) [.urn u, .d (.list (WS.map wordD))] (.d (.bool true)) ((u, .urn ns t') :: post) := by
  obtain ⟨a, ha, ea⟩ := cell_cases (ns := ns) (t := t + 1 + 1) 5 (by decide)
  have ea : cellV ns (t + 1 + 1) 5 = (a : Int) := ea
  obtain ⟨b, hb, eb⟩ := cell_cases (ns := ns) (t := t + 1 + 1 + 1) 6 (by decide)
  have eb : cellV ns (t + 1 + 1 + 1) 6 = (b : Int) := eb
  have hrow : rowN ns false (.str (Str.ofString "dispatchp")) (.str (Str.ofString "here")) (Str.ofString "xin") (t + 1 + 1) (Str.ofString "xin").cps.size = (.str (Str.ofString "dispatchp") :: [.str (Str.ofString "x"), .int (cellV ns (t + 1 + 1) 5 - 1), .int (cellV ns (t + 1 + 1 + 1) 6 - 1)], t + 1 + 1 + 1 + 1) := by kernel_rfl
  rw [ea, eb] at hrow
  exact right_mid I ok hout (wd := Str.ofString "dispatchp") (psL := Str.ofString "xin") (n1 := Str.ofString "0") (n2 := Str.ofString "0") (hasL := false) (i1 := 0) (i2 := 0) h0 hbt hl (by rw [hcv]; rfl) (by kernel_rfl) (by decide) (by kernel_rfl) (by decide) (by kernel_rfl) (fun _ _ h => nomatch h) hrow (by decide) (mid_dispatchp I ha hb) (fun _ => by kernel_rfl)
noncomputable def rest_entrycall (a b : Nat) : List PyData := [.str (Str.ofString "x"), .int ((a : Int) - 1), .int ((b : Int) - 1)]
noncomputable def row_entrycall (a b : Nat) (n : Int) : RowD := ⟨Str.ofString "entrycall", [.str (Str.ofString "x"), .int ((a : Int) - 1), .int ((b : Int) - 1)], 1, 0, Str.ofString "-nn", none, none, false, [((a : Int) - 1), ((b : Int) - 1)], none, [((a : Int) - 1)], none⟩
theorem chk_entrycall : ∀ (a : Fin 4) (b : Fin 6), chk (Str.ofString "entrycall") (Str.ofString "xfn") (rest_entrycall a.val b.val) [(((b.val : Nat) : Int) - 1)] [(((a.val : Nat) : Int) - 1)] 1 (row_entrycall a.val b.val 0) = true := by decide +kernel
theorem mid_entrycall (I : G.Is) {a b : Nat} (ha : a < 4) (hb : b < 6) : Mid G (Str.ofString "entrycall") (Str.ofString "xfn") 1 0 (rest_entrycall a b) [((b : Int) - 1)] [((a : Int) - 1)] (row_entrycall a b) false :=
  mid_mk (tk_of (lay_row (lay_lit "entrycall") (lay_c (lay_lit "x") (lay_c (lay_i _) (lay_c (lay_i _) rfl)))) (by kernel_rfl) (by decide) (by kernel_rfl) (by kernel_rfl) (by kernel_rfl) (by simp) (by simp) (fun zs h => by unfold rest_entrycall at h; simp at h) (.inl (by simp))) (fun _ => rfl) (fun _ => by kernel_rfl) (fun n => { W := wd_k I (wd := Str.ofString "entrycall") (ps := Str.ofString "-nn") (lay_lit "entrycall") (by kernel_rfl) (by kernel_rfl) (by decide) (by kernel_rfl), R := rowok_b (by kernel_rfl), V := lv_k I (by kernel_rfl) (by kernel_rfl) (by kernel_rfl), X := (show Wx (Str.ofString "entrycall") from ⟨by decide, by decide, by decide, by decide, by decide, by decide⟩), C := { cs := by kernel_rfl, nsl := by simp [row_entrycall], c1 := ⟨none, by rw [I.K]; kernel_rfl, rfl⟩, t1 := tru_k I (ats := [2]) (by kernel_rfl) (by decide) rfl (fun i hi => by match i, hi with | 0, _ => exact ⟨by decide, by decide, rfl⟩), d1 := by kernel_rfl, d2 := fun _ h => (nomatch h), need := fun h => by simp [row_entrycall] }, lay := (lay_row (lay_lit "entrycall") (lay_c (lay_lit "x") (lay_c (lay_i _) (lay_c (lay_i _) rfl)))) }) (fun _ => rfl) (by decide) (fun _ => by kernel_rfl) (fun _ => rfl) (fun _ => rfl) (fun _ => by kernel_rfl) (by kernel_rfl) (fun _ => ⟨by kernel_rfl, by kernel_rfl⟩) (chk_entrycall ⟨a, ha⟩ ⟨b, hb⟩)
theorem turn_entrycall (I : G.Is) (ok : c.Ok G 20) (hout : c.outer = []) {ns : List Int} {t : Int} (h0 : 0 ≤ t) (hbt : t ≤ 1000) (hl : ns.length ≤ 50) (hcv : cellV ns (t + 1) (WS.length : Nat) = 12) :
    ∃ t', t ≤ t' ∧ t' ≤ t + 100 ∧ ∀ u post ml, Cal G c ((u, .urn ns t) :: post) ml (.ref 304) [.urn u, .d (.list (WS.map wordD))] (.d (.bool true)) ((u, .urn ns t') :: post) := by
  obtain ⟨a, ha, ea⟩ := cell_cases (ns := ns) (t := t + 1 + 1) 4 (by decide)
  have ea : cellV ns (t + 1 + 1) 4 = (a : Int) := ea
  obtain ⟨b, hb, eb⟩ := cell_cases (ns := ns) (t := t + 1 + 1 + 1) 6 (by decide)
  have eb : cellV ns (t + 1 + 1 + 1) 6 = (b : Int) := eb
  have hrow : rowN ns false (.str (Str.ofString "entrycall")) (.str (Str.ofString "here")) (Str.ofString "xfn") (t + 1 + 1) (Str.ofString "xfn").cps.size = (.str (Str.ofString "entrycall") :: [.str (Str.ofString "x"), .int (cellV ns (t + 1 + 1) 4 - 1), .int (cellV ns (t + 1 + 1 + 1) 6 - 1)], t + 1 + 1 + 1 + 1) := by kernel_rfl
  rw [ea, eb] at hrow
  exact right_mid I ok hout (wd := Str.ofString "entrycall") (psL := Str.ofString "xfn") (n1 := Str.ofString "1") (n2 := Str.ofString "0") (hasL := false) (i1 := 1) (i2 := 0) h0 hbt hl (by rw [hcv]; rfl) (by kernel_rfl) (by decide) (by kernel_rfl) (by decide) (by kernel_rfl) (fun _ _ h => nomatch h) hrow (by decide) (mid_entrycall I ha hb) (fun _ => by kernel_rfl)
noncomputable def rest_trycall0 (a b : Nat) : List PyData := [.str (Str.ofString "x"), .int ((a : Int) - 1), .int ((b : Int) - 1), .str (Str.ofString "else"), .str (Str.ofString "here")]
noncomputable def row_trycall0 (a b : Nat) (n : Int) : RowD := ⟨Str.ofString "trycall", [.str (Str.ofString "x"), .int ((a : Int) - 1), .int ((b : Int) - 1), .str (Str.ofString "else"), .int n], 1, 0, Str.ofString "-nnwj", none, none, false, [((a : Int) - 1), ((b : Int) - 1)], none, [((a : Int) - 1)], none⟩
theorem chk_trycall0 : ∀ (a : Fin 4) (b : Fin 6), chk (Str.ofString "trycall") (Str.ofString "xfnwp") (rest_trycall0 a.val b.val) [(((b.val : Nat) : Int) - 1)] [(((a.val : Nat) : Int) - 1)] 1 (row_trycall0 a.val b.val 0) = true := by decide +kernel
theorem mid_trycall0 (I : G.Is) {a b : Nat} (ha : a < 4) (hb : b < 6) : Mid G (Str.ofString "trycall") (Str.ofString "xfnwp") 1 0 (rest_trycall0 a b) [((b : Int) - 1)] [((a : Int) - 1)] (row_trycall0 a b) true :=
  mid_mk (tk_of (lay_row (lay_lit "trycall") (lay_c (lay_lit "x") (lay_c (lay_i _) (lay_c (lay_i _) (lay_c (lay_lit "else") (lay_c (lay_lit "here") rfl)))))) (by kernel_rfl) (by decide) (by kernel_rfl) (by kernel_rfl) (by kernel_rfl) (by simp) (by simp) (fun zs h => by unfold rest_trycall0 at h; simp at h) (.inl (by simp))) (fun _ => rfl) (fun _ => by kernel_rfl) (fun n => { W := wd_k I (wd := Str.ofString "trycall") (ps := Str.ofString "-nnwj") (lay_lit "trycall") (by kernel_rfl) (by kernel_rfl) (by decide) (by kernel_rfl), R := rowok_b (by kernel_rfl), V := lv_k I (by kernel_rfl) (by kernel_rfl) (by kernel_rfl), X := (show Wx (Str.ofString "trycall") from ⟨by decide, by decide, by decide, by decide, by decide, by decide⟩), C := { cs := by kernel_rfl, nsl := by simp [row_trycall0], c1 := ⟨none, by rw [I.K]; kernel_rfl, rfl⟩, t1 := tru_k I (ats := [2]) (by kernel_rfl) (by decide) rfl (fun i hi => by match i, hi with | 0, _ => exact ⟨by decide, by decide, rfl⟩), d1 := by kernel_rfl, d2 := fun _ h => (nomatch h), need := fun h => by simp [row_trycall0] }, lay := (lay_row (lay_lit "trycall") (lay_c (lay_lit "x") (lay_c (lay_i _) (lay_c (lay_i _) (lay_c (lay_lit "else") (lay_c (lay_i n) rfl)))))) }) (fun _ => rfl) (by decide) (fun _ => by kernel_rfl) (fun _ => rfl) (fun _ => rfl) (fun _ => by kernel_rfl) (by kernel_rfl) (fun _ => ⟨by kernel_rfl, by kernel_rfl⟩) (chk_trycall0 ⟨a, ha⟩ ⟨b, hb⟩)
noncomputable def rest_trycall1 (a b : Nat) : List PyData := [.str (Str.ofString "x"), .int ((a : Int) - 1), .int ((b : Int) - 1), .str (Str.ofString "delay"), .str (Str.ofString "here")]
noncomputable def row_trycall1 (a b : Nat) (n : Int) : RowD := ⟨Str.ofString "trycall", [.str (Str.ofString "x"), .int ((a : Int) - 1), .int ((b : Int) - 1), .str (Str.ofString "delay"), .int n], 1, 0, Str.ofString "-nnwj", none, none, false, [((a : Int) - 1), ((b : Int) - 1)], none, [((a : Int) - 1)], none⟩
theorem chk_trycall1 : ∀ (a : Fin 4) (b : Fin 6), chk (Str.ofString "trycall") (Str.ofString "xfnwp") (rest_trycall1 a.val b.val) [(((b.val : Nat) : Int) - 1)] [(((a.val : Nat) : Int) - 1)] 1 (row_trycall1 a.val b.val 0) = true := by decide +kernel
theorem mid_trycall1 (I : G.Is) {a b : Nat} (ha : a < 4) (hb : b < 6) : Mid G (Str.ofString "trycall") (Str.ofString "xfnwp") 1 0 (rest_trycall1 a b) [((b : Int) - 1)] [((a : Int) - 1)] (row_trycall1 a b) true :=
  mid_mk (tk_of (lay_row (lay_lit "trycall") (lay_c (lay_lit "x") (lay_c (lay_i _) (lay_c (lay_i _) (lay_c (lay_lit "delay") (lay_c (lay_lit "here") rfl)))))) (by kernel_rfl) (by decide) (by kernel_rfl) (by kernel_rfl) (by kernel_rfl) (by simp) (by simp) (fun zs h => by unfold rest_trycall1 at h; simp at h) (.inl (by simp))) (fun _ => rfl) (fun _ => by kernel_rfl) (fun n => { W := wd_k I (wd := Str.ofString "trycall") (ps := Str.ofString "-nnwj") (lay_lit "trycall") (by kernel_rfl) (by kernel_rfl) (by decide) (by kernel_rfl), R := rowok_b (by kernel_rfl), V := lv_k I (by kernel_rfl) (by kernel_rfl) (by kernel_rfl), X := (show Wx (Str.ofString "trycall") from ⟨by decide, by decide, by decide, by decide, by decide, by decide⟩), C := { cs := by kernel_rfl, nsl := by simp [row_trycall1], c1 := ⟨none, by rw [I.K]; kernel_rfl, rfl⟩, t1 := tru_k I (ats := [2]) (by kernel_rfl) (by decide) rfl (fun i hi => by match i, hi with | 0, _ => exact ⟨by decide, by decide, rfl⟩), d1 := by kernel_rfl, d2 := fun _ h => (nomatch h), need := fun h => by simp [row_trycall1] }, lay := (lay_row (lay_lit "trycall") (lay_c (lay_lit "x") (lay_c (lay_i _) (lay_c (lay_i _) (lay_c (lay_lit "delay") (lay_c (lay_i n) rfl)))))) }) (fun _ => rfl) (by decide) (fun _ => by kernel_rfl) (fun _ => rfl) (fun _ => rfl) (fun _ => by kernel_rfl) (by kernel_rfl) (fun _ => ⟨by kernel_rfl, by kernel_rfl⟩) (chk_trycall1 ⟨a, ha⟩ ⟨b, hb⟩)
theorem turn_trycall (I : G.Is) (ok : c.Ok G 20) (hout : c.outer = []) {ns : List Int} {t : Int} (h0 : 0 ≤ t) (hbt : t ≤ 1000) (hl : ns.length ≤ 50) (hcv : cellV ns (t + 1) (WS.length : Nat) = 13) :
    ∃ t', t ≤ t' ∧ t' ≤ t + 100 ∧ ∀ u post ml, Cal G c ((u, .urn ns t) :: post) ml (.ref 304) [.urn u, .d (.list (WS.map wordD))] (.d (.bool true)) ((u, .urn ns t') :: post) := by
  obtain ⟨a, ha, ea⟩ := cell_cases (ns := ns) (t := t + 1 + 1) 4 (by decide)
  have ea : cellV ns (t + 1 + 1) 4 = (a : Int) := ea
  obtain ⟨b, hb, eb⟩ := cell_cases (ns := ns) (t := t + 1 + 1 + 1) 6 (by decide)
  have eb : cellV ns (t + 1 + 1 + 1) 6 = (b : Int) := eb
  obtain ⟨c', hc', ec⟩ := cell_cases (ns := ns) (t := t + 1 + 1 + 1 + 1) 2 (by decide)
  have ec : cellV ns (t + 1 + 1 + 1 + 1) 2 = (c' : Int) := ec
  have hrow : rowN ns false (.str (Str.ofString "trycall")) (.str (Str.ofString "here")) (Str.ofString "xfnwp") (t + 1 + 1) (Str.ofString "xfnwp").cps.size = (.str (Str.ofString "trycall") :: [.str (Str.ofString "x"), .int (cellV ns (t + 1 + 1) 4 - 1), .int (cellV ns (t + 1 + 1 + 1) 6 - 1), wordW (cellV ns (t + 1 + 1 + 1 + 1) 2), .str (Str.ofString "here")], t + 1 + 1 + 1 + 1 + 1) := by kernel_rfl
  rw [ea, eb, ec] at hrow
  rcases (by omega : c' = 0 ∨ c' = 1) with rfl | rfl
  · exact right_mid I ok hout (wd := Str.ofString "trycall") (psL := Str.ofString "xfnwp") (n1 := Str.ofString "1") (n2 := Str.ofString "0") (hasL := false) (i1 := 1) (i2 := 0) h0 hbt hl (by rw [hcv]; rfl) (by kernel_rfl) (by decide) (by kernel_rfl) (by decide) (by kernel_rfl) (fun _ _ h => nomatch h) hrow (by decide) (mid_trycall0 I ha hb) (fun _ => by kernel_rfl)
  · exact right_mid I ok hout (wd := Str.ofString "trycall") (psL := Str.ofString "xfnwp") (n1 := Str.ofString "1") (n2 := Str.ofString "0") (hasL := false) (i1 := 1) (i2 := 0) h0 hbt hl (by rw [hcv]; rfl) (by kernel_rfl) (by decide) (by kernel_rfl) (by decide) (by kernel_rfl) (fun _ _ h => nomatch h) hrow (by decide) (mid_trycall1 I ha hb) (fun _ => by kernel_rfl)
noncomputable def rest_accept (a : Nat) : List PyData := [.str (Str.ofString "x"), .int ((a : Int) - 1), .str (Str.ofString "x")]
noncomputable def row_accept (a : Nat) (n : Int) : RowD := ⟨Str.ofString "accept", [.str (Str.ofString "x"), .int ((a : Int) - 1), .str (Str.ofString "x")], 0, 0, Str.ofString "-n-", (some (Str.ofString "accept")), none, false, [((a : Int) - 1)], none, [((a : Int) - 1)], none⟩
theorem chk_accept : ∀ (a : Fin 4), chk (Str.ofString "accept") (Str.ofString "xfx") (rest_accept a.val) [] [(((a.val : Nat) : Int) - 1)] 0 (row_accept a.val 0) = true := by decide +kernel
theorem mid_accept (I : G.Is) {a : Nat} (ha : a < 4) : Mid G (Str.ofString "accept") (Str.ofString "xfx") 0 0 (rest_accept a) [] [((a : Int) - 1)] (row_accept a) false :=
  mid_mk (tk_of (lay_row (lay_lit "accept") (lay_c (lay_lit "x") (lay_c (lay_i _) (lay_c (lay_lit "x") rfl)))) (by kernel_rfl) (by decide) (by kernel_rfl) (by kernel_rfl) (by kernel_rfl) (by simp) (by simp) (fun zs h => by unfold rest_accept at h; simp at h) (.inr ⟨by kernel_rfl, by kernel_rfl⟩)) (fun _ => rfl) (fun _ => by kernel_rfl) (fun n => { W := wd_k I (wd := Str.ofString "accept") (ps := Str.ofString "-n-") (lay_lit "accept") (by kernel_rfl) (by kernel_rfl) (by decide) (by kernel_rfl), R := rowok_b (by kernel_rfl), V := lv_op I (by kernel_rfl) (lay_lit "accept") (by kernel_rfl) (by kernel_rfl), X := (show Wx (Str.ofString "accept") from ⟨by decide, by decide, by decide, by decide, by decide, by decide⟩), C := { cs := by kernel_rfl, nsl := by simp [row_accept], c1 := ⟨none, by rw [I.K]; kernel_rfl, rfl⟩, t1 := tru_k I (ats := [2]) (by kernel_rfl) (by decide) rfl (fun i hi => by match i, hi with | 0, _ => exact ⟨by decide, by decide, rfl⟩), d1 := by kernel_rfl, d2 := fun _ h => (nomatch h), need := fun h => by simp [row_accept] }, lay := (lay_row (lay_lit "accept") (lay_c (lay_lit "x") (lay_c (lay_i _) (lay_c (lay_lit "x") rfl)))) }) (fun _ => rfl) (by decide) (fun _ => by kernel_rfl) (fun _ => rfl) (fun _ => rfl) (fun _ => by kernel_rfl) (by kernel_rfl) (fun _ => ⟨by kernel_rfl, by kernel_rfl⟩) (chk_accept ⟨a, ha⟩)
theorem turn_accept (I : G.Is) (ok : c.Ok G 20) (hout : c.outer = []) {ns : List Int} {t : Int} (h0 : 0 ≤ t) (hbt : t ≤ 1000) (hl : ns.length ≤ 50) (hcv : cellV ns (t + 1) (WS.length : Nat) = 14) :
    ∃ t', t ≤ t' ∧ t' ≤ t + 100 ∧ ∀ u post ml, Cal G c ((u, .urn ns t) :: post) ml (.ref 304) [.urn u, .d (.list (WS.map wordD))] (.d (.bool true)) ((u, .urn ns t') :: post) := by
  obtain ⟨a, ha, ea⟩ := cell_cases (ns := ns) (t := t + 1 + 1) 4 (by decide)
  have ea : cellV ns (t + 1 + 1) 4 = (a : Int) := ea
  have hrow : rowN ns false (.str (Str.ofString "accept")) (.str (Str.ofString "here")) (Str.ofString "xfx") (t + 1 + 1) (Str.ofString "xfx").cps.size = (.str (Str.ofString "accept") :: [.str (Str.ofString "x"), .int (cellV ns (t + 1 + 1) 4 - 1), .str (Str.ofString "x")], t + 1 + 1 + 1) := by kernel_rfl
  rw [ea] at hrow
  exact right_mid I ok hout (wd := Str.ofString "accept") (psL := Str.ofString "xfx") (n1 := Str.ofString "0") (n2 := Str.ofString "0") (hasL := false) (i1 := 0) (i2 := 0) h0 hbt hl (by rw [hcv]; rfl) (by kernel_rfl) (by decide) (by kernel_rfl) (by decide) (by kernel_rfl) (fun _ _ h => nomatch h) hrow (by decide) (mid_accept I ha) (fun _ => by kernel_rfl)
noncomputable def rest_openaccept (a : Nat) : List PyData := [.str (Str.ofString "x"), .str (Str.ofString "x"), .int ((a : Int) - 1)]
noncomputable def row_openaccept (a : Nat) (n : Int) : RowD := ⟨Str.ofString "openaccept", [.str (Str.ofString "x"), .str (Str.ofString "x"), .int ((a : Int) - 1)], 1, 1, Str.ofString "--n", none, none, false, [((a : Int) - 1)], none, [((a : Int) - 1)], none⟩
theorem chk_openaccept : ∀ (a : Fin 4), chk (Str.ofString "openaccept") (Str.ofString "xxf") (rest_openaccept a.val) [] [(((a.val : Nat) : Int) - 1)] 1 (row_openaccept a.val 0) = true := by decide +kernel
theorem mid_openaccept (I : G.Is) {a : Nat} (ha : a < 4) : Mid G (Str.ofString "openaccept") (Str.ofString "xxf") 1 1 (rest_openaccept a) [] [((a : Int) - 1)] (row_openaccept a) false :=
  mid_mk (tk_of (lay_row (lay_lit "openaccept") (lay_c (lay_lit "x") (lay_c (lay_lit "x") (lay_c (lay_i _) rfl)))) (by kernel_rfl) (by decide) (by kernel_rfl) (by kernel_rfl) (by kernel_rfl) (by simp) (by simp) (fun zs h => by unfold rest_openaccept at h; simp at h) (.inr ⟨by kernel_rfl, by kernel_rfl⟩)) (fun _ => rfl) (fun _ => by kernel_rfl) (fun n => { W := wd_k I (wd := Str.ofString "openaccept") (ps := Str.ofString "--n") (lay_lit "openaccept") (by kernel_rfl) (by kernel_rfl) (by decide) (by kernel_rfl), R := rowok_b (by kernel_rfl), V := lv_k I (by kernel_rfl) (by kernel_rfl) (by kernel_rfl), X := (show Wx (Str.ofString "openaccept") from ⟨by decide, by decide, by decide, by decide, by decide, by decide⟩), C := { cs := by kernel_rfl, nsl := by simp [row_openaccept], c1 := ⟨none, by rw [I.K]; kernel_rfl, rfl⟩, t1 := tru_k I (ats := [3]) (by kernel_rfl) (by decide) rfl (fun i hi => by match i, hi with | 0, _ => exact ⟨by decide, by decide, rfl⟩), d1 := by kernel_rfl, d2 := fun _ h => (nomatch h), need := fun h => by simp [row_openaccept] }, lay := (lay_row (lay_lit "openaccept") (lay_c (lay_lit "x") (lay_c (lay_lit "x") (lay_c (lay_i _) rfl)))) }) (fun _ => rfl) (by decide) (fun _ => by kernel_rfl) (fun _ => rfl) (fun _ => rfl) (fun _ => by kernel_rfl) (by kernel_rfl) (fun _ => ⟨by kernel_rfl, by kernel_rfl⟩) (chk_openaccept ⟨a, ha⟩)
theorem turn_openaccept (I : G.Is) (ok : c.Ok G 20) (hout : c.outer = []) {ns : List Int} {t : Int} (h0 : 0 ≤ t) (hbt : t ≤ 1000) (hl : ns.length ≤ 50) (hcv : cellV ns (t + 1) (WS.length : Nat) = 15) :
    ∃ t', t ≤ t' ∧ t' ≤ t + 100 ∧ ∀ u post ml, Cal G c ((u, .urn ns t) :: post) ml (.ref 304) [.urn u, .d (.list (WS.map wordD))] (.d (.bool true)) ((u, .urn ns t') :: post) := by
  obtain ⟨a, ha, ea⟩ := cell_cases (ns := ns) (t := t + 1 + 1) 4 (by decide)
  have ea : cellV ns (t + 1 + 1) 4 = (a : Int) := ea
  have hrow : rowN ns false (.str (Str.ofString "openaccept")) (.str (Str.ofString "here")) (Str.ofString "xxf") (t + 1 + 1) (Str.ofString "xxf").cps.size = (.str (Str.ofString "openaccept") :: [.str (Str.ofString "x"), .str (Str.ofString "x"), .int (cellV ns (t + 1 + 1) 4 - 1)], t + 1 + 1 + 1) := by kernel_rfl
  rw [ea] at hrow
  exact right_mid I ok hout (wd := Str.ofString "openaccept") (psL := Str.ofString "xxf") (n1 := Str.ofString "1") (n2 := Str.ofString "1") (hasL := false) (i1 := 1) (i2 := 1) h0 hbt hl (by rw [hcv]; rfl) (by kernel_rfl) (by decide) (by kernel_rfl) (by decide) (by kernel_rfl) (fun _ _ h => nomatch h) hrow (by decide) (mid_openaccept I ha) (fun _ => by kernel_rfl)
noncomputable def rest_requeue (a b : Nat) : List PyData := [.str (Str.ofString "x"), .int ((a : Int) - 1), .int ((b : Int) - 1), .str (Str.ofString "x")]
noncomputable def row_requeue (a b : Nat) (n : Int) : RowD := ⟨Str.ofString "requeue", [.str (Str.ofString "x"), .int ((a : Int) - 1), .int ((b : Int) - 1), .str (Str.ofString "x")], 0, 0, Str.ofString "-nn-", none, none, false, [((a : Int) - 1), ((b : Int) - 1)], none, [((a : Int) - 1), ((b : Int) - 1)], none⟩
theorem chk_requeue : ∀ (a : Fin 4) (b : Fin 4), chk (Str.ofString "requeue") (Str.ofString "xffx") (rest_requeue a.val b.val) [] [(((a.val : Nat) : Int) - 1), (((b.val : Nat) : Int) - 1)] 0 (row_requeue a.val b.val 0) = true := by decide +kernel
theorem mid_requeue (I : G.Is) {a b : Nat} (ha : a < 4) (hb : b < 4) : Mid G (Str.ofString "requeue") (Str.ofString "xffx") 0 0 (rest_requeue a b) [] [((a : Int) - 1), ((b : Int) - 1)] (row_requeue a b) false :=
  mid_mk (tk_of (lay_row (lay_lit "requeue") (lay_c (lay_lit "x") (lay_c (lay_i _) (lay_c (lay_i _) (lay_c (lay_lit "x") rfl))))) (by kernel_rfl) (by decide) (by kernel_rfl) (by kernel_rfl) (by kernel_rfl) (by simp) (by simp) (fun zs h => by unfold rest_requeue at h; simp at h) (.inr ⟨by kernel_rfl, by kernel_rfl⟩)) (fun _ => rfl) (fun _ => by kernel_rfl) (fun n => { W := wd_k I (wd := Str.ofString "requeue") (ps := Str.ofString "-nn-") (lay_lit "requeue") (by kernel_rfl) (by kernel_rfl) (by decide) (by kernel_rfl), R := rowok_b (by kernel_rfl), V := lv_k I (by kernel_rfl) (by kernel_rfl) (by kernel_rfl), X := (show Wx (Str.ofString "requeue") from ⟨by decide, by decide, by decide, by decide, by decide, by decide⟩), C := { cs := by kernel_rfl, nsl := by simp [row_requeue], c1 := ⟨none, by rw [I.K]; kernel_rfl, rfl⟩, t1 := tru_k I (ats := [2, 3]) (by kernel_rfl) (by decide) rfl (fun i hi => by match i, hi with | 0, _ => exact ⟨by decide, by decide, rfl⟩ | 1, _ => exact ⟨by decide, by decide, rfl⟩), d1 := by kernel_rfl, d2 := fun _ h => (nomatch h), need := fun h => by simp [row_requeue] }, lay := (lay_row (lay_lit "requeue") (lay_c (lay_lit "x") (lay_c (lay_i _) (lay_c (lay_i _) (lay_c (lay_lit "x") rfl))))) }) (fun _ => rfl) (by decide) (fun _ => by kernel_rfl) (fun _ => rfl) (fun _ => rfl) (fun _ => by kernel_rfl) (by kernel_rfl) (fun _ => ⟨by kernel_rfl, by kernel_rfl⟩) (chk_requeue ⟨a, ha⟩ ⟨b, hb⟩)
theorem turn_requeue (I : G.Is) (ok : c.Ok G 20) (hout : c.outer = []) {ns : List Int} {t : Int} (h0 : 0 ≤ t) (hbt : t ≤ 1000) (hl : ns.length ≤ 50) (hcv : cellV ns (t + 1) (WS.length : Nat) = 16) :
    ∃ t', t ≤ t' ∧ t' ≤ t + 100 ∧ ∀ u post ml, Cal G c ((u, .urn ns t) :: post) ml (.ref 304) [.urn u, .d (.list (WS.map wordD))] (.d (.bool true)) ((u, .urn ns t') :: post) := by
  obtain ⟨a, ha, ea⟩ := cell_cases (ns := ns) (t := t + 1 + 1) 4 (by decide)
  have ea : cellV ns (t + 1 + 1) 4 = (a : Int) := ea
  obtain ⟨b, hb, eb⟩ := cell_cases (ns := ns) (t := t + 1 + 1 + 1) 4 (by decide)
  have eb : cellV ns (t + 1 + 1 + 1) 4 = (b : Int) := eb
  have hrow : rowN ns false (.str (Str.ofString "requeue")) (.str (Str.ofString "here")) (Str.ofString "xffx") (t + 1 + 1) (Str.ofString "xffx").cps.size = (.str (Str.ofString "requeue") :: [.str (Str.ofString "x"), .int (cellV ns (t + 1 + 1) 4 - 1), .int (cellV ns (t + 1 + 1 + 1) 4 - 1), .str (Str.ofString "x")], t + 1 + 1 + 1 + 1) := by kernel_rfl
  rw [ea, eb] at hrow
  exact right_mid I ok hout (wd := Str.ofString "requeue") (psL := Str.ofString "xffx") (n1 := Str.ofString "0") (n2 := Str.ofString "0") (hasL := false) (i1 := 0) (i2 := 0) h0 hbt hl (by rw [hcv]; rfl) (by kernel_rfl) (by decide) (by kernel_rfl) (by decide) (by kernel_rfl) (fun _ _ h => nomatch h) hrow (by decide) (mid_requeue I ha hb) (fun _ => by kernel_rfl)
theorem right_ok (I : G.Is) {ns : List Int} (hl : ns.length ≤ 50) : RightOk G ns := by
  intro c t ok hout h0 hbt
  obtain ⟨k, hk, e⟩ := cell_cases (ns := ns) (t := t + 1) 17 (by decide)
  have e : cellV ns (t + 1) (WS.length : Nat) = (k : Int) := e
  rcases (by omega : k = 0 ∨ k = 1 ∨ k = 2 ∨ k = 3 ∨ k = 4 ∨ k = 5 ∨ k = 6 ∨ k = 7 ∨ k = 8 ∨ k = 9 ∨ k = 10 ∨ k = 11 ∨ k = 12 ∨ k = 13 ∨ k = 14 ∨ k = 15 ∨ k = 16) with rfl | rfl | rfl | rfl | rfl | rfl | rfl | rfl | rfl | rfl | rfl | rfl | rfl | rfl | rfl | rfl | rfl
  · exact turn_index I ok hout h0 hbt hl e
  · exact turn_placeindex I ok hout h0 hbt hl e
  · exact turn_op I ok hout h0 hbt hl e
  · exact turn_attrof I ok hout h0 hbt hl e
  · exact turn_taskattr I ok hout h0 hbt hl e
  · exact turn_recordof I ok hout h0 hbt hl e
  · exact turn_extendof I ok hout h0 hbt hl e
  · exact turn_callf I ok hout h0 hbt hl e
  · exact turn_dispatchf I ok hout h0 hbt hl e
  · exact turn_protcall I ok hout h0 hbt hl e
  · exact turn_callp I ok hout h0 hbt hl e
  · exact turn_dispatchp I ok hout h0 hbt hl e
  · exact turn_entrycall I ok hout h0 hbt hl e
  · exact turn_trycall I ok hout h0 hbt hl e
  · exact turn_accept I ok hout h0 hbt hl e
  · exact turn_openaccept I ok hout h0 hbt hl e
  · exact turn_requeue I ok hout h0 hbt hl e
end
end Mine
end
section
open PySem PySem.W PyProof.Rows PySem.Calls PySem.Spec
set_option maxRecDepth 100000
set_option maxHeartbeats 4000000
namespace Mine
theorem rvs_ints {H0 : Heap} {fz : Led} : ∀ {vs : List Value} {ns : List Int}, IntsAre vs ns → RVs H0 fz vs (ns.map .int)
  | _, _, .nil => .nil
  | _, _, .cons n t r => .cons (RV.int _ _) (rvs_ints r)
theorem law_wp (R : ∀ (G : Glo), G.Is → ∀ ns : List Int, ns.length ≤ 50 → RightOk G ns) {w : World} {mean : ExcName → Option Value} {mg mb : Str → Option Value} {h0 : Heap} {a : Addr} {vs : List Value} {ns : List Int} {fa : Addr} {cd : Value} {loose : List Str} {s : Shared}
    (KX : (fragT pg w.params).In h0) (T : Top (qv pg) loose mean mg mb h0) (hL : h0.IsList a vs.toArray) (hI : IntsAre vs ns) (hcc : ns.length ≤ 63) (K0 : Below callerA h0 [] h0)
    (F : Fr h0 h0.objs.size s.heap fun x => List.lookup x [(Str.ofString "script", Value.ref a)]) (N0 : News h0 h0.objs.size s.heap []) {Q : Flow → Shared → Prop} {E : Value → Shared → Prop}
    (hE : PassesOwn (model pg w) (lawCx h0 h0.objs.size fa cd).A (lawCx h0 h0.objs.size fa cd).env E)
    (hQ : ∀ h' tk' m, Fr h0 h0.objs.size h' m → Q (.ret (.bool true)) { s with heap := h', toks := tk' }) :
    wpAny (model pg w) (lawCx h0 h0.objs.size fa cd).A (execs (fBody (stN pg 38)) (lawCx h0 h0.objs.size fa cd).env) Q E s := by
  have Gi : (⟨pg, w, fragT pg w.params, qv pg, loose, mean, mg, mb, h0, KX, T⟩ : Glo).Is := ⟨rfl, rfl⟩
  have ok : (lawCx h0 h0.objs.size fa cd).FOk ⟨pg, w, fragT pg w.params, qv pg, loose, mean, mg, mb, h0, KX, T⟩ 20 := ⟨⟨K0, rfl, rfl, rfl, rfl, rfl, rfl, (by show callerA.depth + 20 ≤ 400; decide), (by show callerA.units + 20 * 20 ≤ 2000; decide)⟩, rfl, rfl, rfl, fun x y b h => nomatch h⟩
  refine law_body Gi ok hcc (R _ Gi _ (by rw [List.length_take]; omega)) [] s Q E hE ⟨_, [], [], F, N0, trivial, List.nodup_nil, (fun _ h => nomatch h), (fun _ h => nomatch h), fun el hel x hx => ?_, (fun _ h => nomatch h)⟩ fun v h' tk' S => ?_
  · rcases List.mem_cons.mp hel with rfl | hel
    · obtain rfl := List.mem_singleton.mp hx
      obtain ⟨o, ho, hcls, n, hd⟩ := hL
      exact ⟨.ref a, .inl ⟨by rfl, rfl, by rfl⟩, RV.list (.inl ho) hcls hd (rvs_ints hI)⟩
    · obtain rfl := List.mem_singleton.mp hel
      cases hx
  · obtain ⟨m, own, fz, S⟩ := S
    have r := S.tmp _ (.head _)
    cases r
    exact hQ h' tk' m S.F
theorem law_in (R : ∀ (G : Glo), G.Is → ∀ ns : List Int, ns.length ≤ 50 → RightOk G ns) : PySem.Challenge.rw_pp0050_01.Holds := by
  refine h_head (by rfl) (by rfl) (by rfl) ?_
  intro w s₀ s₁ mg mb G Y fa o pm cd doc dV kV ho hd hcd hD hmg hg args vals as hpre hlay hrd hwl hlo
  have KX : (fragT pg w.params).In s₁.heap := Y
  have V := (Ground.X G).2
  refine Ground.open G ?_
  intro T B D TE TW
  clear D
  obtain ⟨_, _, M⟩ := bmod_of_top T
  obtain ⟨_, _, he, B0⟩ := based_of_top T rfl hmg ho hd
  have he' : cd = _ := he
  subst he'
  clear he hmg
  wrow_args hpre hlay hrd hwl hlo
  all_goals first | refine callC_kw (enter_call ?_) | refine enter_call ?_ | refine callC_kw (enter_callW ?_) | refine enter_callW ?_
  w_top on
  try refine codeAny_mono ?_ (fun _ _ g => GoodW.toG g)
  have K0 := below_caller (Top.heap T)
  w_call any ho hd hcd hD T F
  clear hd
  k_drop
  all_goals try k_fold
  rename Top _ _ _ _ _ _ => T
  rename Heap.IsList _ _ _ => hL
  rename IntsAre _ _ => hI
  rename Below _ _ _ _ => K0
  rename Fr _ _ _ _ => F
  rename News _ _ _ _ => N0
  rename ¬ (_ < _) => hcc
  refine law_wp R KX T hL hI (by omega) K0 F N0 PassesOwn.leaving fun h' tk' m F' => ?_
  refine goodW_bool F' hg (fun _ => rfl) ?_
  wrow_post
end Mine
end
theorem PySem.Challenge.cw_pp0050_01_holds : PySem.Challenge.rw_pp0050_01.Holds := by
  exact Mine.law_in fun G I ns hl => Mine.right_ok I hl
