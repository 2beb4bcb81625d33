import PyProof.Rows.All
import KE.BitLaws
import KE.KUnpack
import KE.LcTurns
import KE.KLcFree
import KE.KDictOf
import KE.KTurnsAny
import KE.KTryDeep
import Wide.FinOn
import OpenK.AllK
import Wide.All
import Lean
import PySem.Challenge.RW_pf0216_01
set_option Elab.async false
set_option linter.unusedVariables false
set_option maxRecDepth 100000
section
open PySem PySem.W PyProof.Rows
noncomputable section
namespace Mine
noncomputable abbrev pw : Program := PySem.Challenge.pw_pf0216_01
noncomputable def fnAt (i : Nat) : Arguments × List Stmt × Scope := match pw.main.body[i]? with
  | some (.FunctionDef _ ps body _ _ _ sc _ _ _) => (ps, body, sc)
  | _ => default
noncomputable def methAt (i j : Nat) : Arguments × List Stmt × Scope := match pw.main.body[i]? with
  | some (.ClassDef _ _ _ body _ _ _ _ _ _ _) => (match body[j]? with
    | some (.FunctionDef _ ps body _ _ _ sc _ _ _) => (ps, body, sc)
    | _ => default)
  | _ => default
noncomputable def SS0 : Str := ⟨⟨[nat_lit 95, nat_lit 95, nat_lit 110, nat_lit 97, nat_lit 109, nat_lit 101, nat_lit 95, nat_lit 95]⟩⟩
noncomputable def SS1 : Str := ⟨⟨[nat_lit 112, nat_lit 105, nat_lit 112, nat_lit 101, nat_lit 98, nat_lit 111, nat_lit 97, nat_lit 114, nat_lit 100, nat_lit 46, nat_lit 105, nat_lit 115, nat_lit 97]⟩⟩
noncomputable def SS2 : Str := ⟨⟨[nat_lit 95, nat_lit 95, nat_lit 100, nat_lit 111, nat_lit 99, nat_lit 95, nat_lit 95]⟩⟩
noncomputable def SS3 : Str := ⟨⟨[nat_lit 95, nat_lit 95, nat_lit 112, nat_lit 97, nat_lit 99, nat_lit 107, nat_lit 97, nat_lit 103, nat_lit 101, nat_lit 95, nat_lit 95]⟩⟩
noncomputable def SS4 : Str := ⟨⟨[nat_lit 95, nat_lit 95, nat_lit 108, nat_lit 111, nat_lit 97, nat_lit 100, nat_lit 101, nat_lit 114, nat_lit 95, nat_lit 95]⟩⟩
noncomputable def SS5 : Str := ⟨⟨[nat_lit 95, nat_lit 95, nat_lit 115, nat_lit 112, nat_lit 101, nat_lit 99, nat_lit 95, nat_lit 95]⟩⟩
noncomputable def SS6 : Str := ⟨⟨[nat_lit 95, nat_lit 95, nat_lit 97, nat_lit 110, nat_lit 110, nat_lit 111, nat_lit 116, nat_lit 97, nat_lit 116, nat_lit 105, nat_lit 111, nat_lit 110, nat_lit 115, nat_lit 95, nat_lit 95]⟩⟩
noncomputable def SS7 : Str := ⟨⟨[nat_lit 95, nat_lit 95, nat_lit 98, nat_lit 117, nat_lit 105, nat_lit 108, nat_lit 116, nat_lit 105, nat_lit 110, nat_lit 115, nat_lit 95, nat_lit 95]⟩⟩
noncomputable def SS8 : Str := ⟨⟨[nat_lit 95, nat_lit 95, nat_lit 102, nat_lit 105, nat_lit 108, nat_lit 101, nat_lit 95, nat_lit 95]⟩⟩
noncomputable def SS9 : Str := ⟨⟨[nat_lit 47, nat_lit 99, nat_lit 108, nat_lit 97, nat_lit 105, nat_lit 109, nat_lit 47, nat_lit 99, nat_lit 117, nat_lit 116, nat_lit 46, nat_lit 112, nat_lit 121]⟩⟩
noncomputable def SS10 : Str := ⟨⟨[nat_lit 95, nat_lit 95, nat_lit 99, nat_lit 97, nat_lit 99, nat_lit 104, nat_lit 101, nat_lit 100, nat_lit 95, nat_lit 95]⟩⟩
noncomputable def SS11 : Str := ⟨⟨[nat_lit 95, nat_lit 119, nat_lit 97, nat_lit 108, nat_lit 108]⟩⟩
noncomputable def SS12 : Str := ⟨⟨[nat_lit 66, nat_lit 111, nat_lit 97, nat_lit 114, nat_lit 100, nat_lit 69, nat_lit 114, nat_lit 114, nat_lit 111, nat_lit 114]⟩⟩
noncomputable def SS13 : Str := ⟨⟨[nat_lit 66, nat_lit 97, nat_lit 100, nat_lit 65, nat_lit 114, nat_lit 103, nat_lit 117, nat_lit 109, nat_lit 101, nat_lit 110, nat_lit 116]⟩⟩
noncomputable def SS14 : Str := ⟨⟨[nat_lit 66, nat_lit 97, nat_lit 100, nat_lit 73, nat_lit 110, nat_lit 115, nat_lit 116, nat_lit 114, nat_lit 117, nat_lit 99, nat_lit 116, nat_lit 105, nat_lit 111, nat_lit 110]⟩⟩
noncomputable def SS15 : Str := ⟨⟨[nat_lit 76, nat_lit 79, nat_lit 65, nat_lit 68]⟩⟩
noncomputable def SS16 : Str := ⟨⟨[nat_lit 70, nat_lit 69, nat_lit 78, nat_lit 67, nat_lit 69, nat_lit 83]⟩⟩
noncomputable def SS17 : Str := ⟨⟨[nat_lit 73, nat_lit 77, nat_lit 77, nat_lit 69, nat_lit 68, nat_lit 73, nat_lit 65, nat_lit 84, nat_lit 69]⟩⟩
noncomputable def SS18 : Str := ⟨⟨[nat_lit 65, nat_lit 85, nat_lit 73, nat_lit 80, nat_lit 67]⟩⟩
noncomputable def SS19 : Str := ⟨⟨[nat_lit 83, nat_lit 84, nat_lit 79, nat_lit 82, nat_lit 69]⟩⟩
noncomputable def SS20 : Str := ⟨⟨[nat_lit 82, nat_lit 69, nat_lit 71, nat_lit 73, nat_lit 83, nat_lit 84, nat_lit 69, nat_lit 82]⟩⟩
noncomputable def SS21 : Str := ⟨⟨[nat_lit 76, nat_lit 85, nat_lit 73]⟩⟩
noncomputable def SS22 : Str := ⟨⟨[nat_lit 66, nat_lit 82, nat_lit 65, nat_lit 78, nat_lit 67, nat_lit 72]⟩⟩
noncomputable def SS23 : Str := ⟨⟨[nat_lit 74, nat_lit 65, nat_lit 76, nat_lit 82]⟩⟩
noncomputable def SS24 : Str := ⟨⟨[nat_lit 74, nat_lit 65, nat_lit 76]⟩⟩
noncomputable def SS25 : Str := ⟨⟨[nat_lit 83, nat_lit 89, nat_lit 83, nat_lit 84, nat_lit 69, nat_lit 77]⟩⟩
noncomputable def SS26 : Str := ⟨⟨[nat_lit 73, nat_lit 110, nat_lit 115, nat_lit 116, nat_lit 114, nat_lit 117, nat_lit 99, nat_lit 116, nat_lit 105, nat_lit 111, nat_lit 110]⟩⟩
noncomputable def SS27 : Str := ⟨⟨[nat_lit 83, nat_lit 104, nat_lit 97, nat_lit 112, nat_lit 101]⟩⟩
noncomputable def SS28 : Str := ⟨⟨[nat_lit 110, nat_lit 117, nat_lit 109, nat_lit 98, nat_lit 101, nat_lit 114, nat_lit 101, nat_lit 100]⟩⟩
noncomputable def SS29 : Str := ⟨⟨[nat_lit 115, nat_lit 104, nat_lit 97, nat_lit 112, nat_lit 101, nat_lit 115]⟩⟩
noncomputable def SS30 : Str := ⟨⟨[nat_lit 60, nat_lit 109, nat_lit 111, nat_lit 100, nat_lit 117, nat_lit 108, nat_lit 101, nat_lit 62]⟩⟩
noncomputable def SS31 : Str := ⟨⟨[nat_lit 95, nat_lit 95, nat_lit 109, nat_lit 97, nat_lit 105, nat_lit 110, nat_lit 95, nat_lit 95]⟩⟩
noncomputable def SS32 : Str := ⟨⟨[nat_lit 107]⟩⟩
noncomputable def SS33 : Str := ⟨⟨[nat_lit 95, nat_lit 95, nat_lit 109, nat_lit 111, nat_lit 100, nat_lit 117, nat_lit 108, nat_lit 101, nat_lit 95, nat_lit 95]⟩⟩
noncomputable def SS34 : Str := ⟨⟨[nat_lit 112, nat_lit 105, nat_lit 112, nat_lit 101, nat_lit 98, nat_lit 111, nat_lit 97, nat_lit 114, nat_lit 100, nat_lit 46, nat_lit 101, nat_lit 114, nat_lit 114, nat_lit 111, nat_lit 114, nat_lit 115]⟩⟩
noncomputable def SS35 : Str := ⟨⟨[nat_lit 95, nat_lit 95, nat_lit 113, nat_lit 117, nat_lit 97, nat_lit 108, nat_lit 110, nat_lit 97, nat_lit 109, nat_lit 101, nat_lit 95, nat_lit 95]⟩⟩
noncomputable def SS36 : Str := ⟨⟨[nat_lit 95, nat_lit 95, nat_lit 102, nat_lit 105, nat_lit 114, nat_lit 115, nat_lit 116, nat_lit 108, nat_lit 105, nat_lit 110, nat_lit 101, nat_lit 110, nat_lit 111, nat_lit 95, nat_lit 95]⟩⟩
noncomputable def SS37 : Str := ⟨⟨[nat_lit 95, nat_lit 95, nat_lit 105, nat_lit 110, nat_lit 105, nat_lit 116, nat_lit 95, nat_lit 95]⟩⟩
noncomputable def SS38 : Str := ⟨⟨[nat_lit 95, nat_lit 95, nat_lit 115, nat_lit 116, nat_lit 97, nat_lit 116, nat_lit 105, nat_lit 99, nat_lit 95, nat_lit 97, nat_lit 116, nat_lit 116, nat_lit 114, nat_lit 105, nat_lit 98, nat_lit 117, nat_lit 116, nat_lit 101, nat_lit 115, nat_lit 95, nat_lit 95]⟩⟩
noncomputable def SS39 : Str := ⟨⟨[]⟩⟩
noncomputable def SS40 : Str := ⟨⟨[nat_lit 115, nat_lit 101, nat_lit 108, nat_lit 102]⟩⟩
noncomputable def SS41 : Str := ⟨⟨[nat_lit 114, nat_lit 101, nat_lit 97, nat_lit 115, nat_lit 111, nat_lit 110]⟩⟩
noncomputable def SS42 : Str := ⟨⟨[nat_lit 66, nat_lit 111, nat_lit 97, nat_lit 114, nat_lit 100, nat_lit 69, nat_lit 114, nat_lit 114, nat_lit 111, nat_lit 114, nat_lit 46, nat_lit 95, nat_lit 95, nat_lit 105, nat_lit 110, nat_lit 105, nat_lit 116, nat_lit 95, nat_lit 95]⟩⟩
noncomputable def SS43 : Str := ⟨⟨[nat_lit 95, nat_lit 95, nat_lit 119, nat_lit 101, nat_lit 97, nat_lit 107, nat_lit 114, nat_lit 101, nat_lit 102, nat_lit 95, nat_lit 95]⟩⟩
noncomputable def SS44 : Str := ⟨⟨[nat_lit 119, nat_lit 111, nat_lit 114, nat_lit 100]⟩⟩
noncomputable def SS45 : Str := ⟨⟨[nat_lit 66, nat_lit 97, nat_lit 100, nat_lit 73, nat_lit 110, nat_lit 115, nat_lit 116, nat_lit 114, nat_lit 117, nat_lit 99, nat_lit 116, nat_lit 105, nat_lit 111, nat_lit 110, nat_lit 46, nat_lit 95, nat_lit 95, nat_lit 105, nat_lit 110, nat_lit 105, nat_lit 116, nat_lit 95, nat_lit 95]⟩⟩
noncomputable def SS46 : Str := ⟨⟨[nat_lit 102, nat_lit 105, nat_lit 101, nat_lit 108, nat_lit 100, nat_lit 115]⟩⟩
noncomputable def SS47 : Str := ⟨⟨[nat_lit 110, nat_lit 97, nat_lit 109, nat_lit 101]⟩⟩
noncomputable def SS48 : Str := ⟨⟨[nat_lit 114, nat_lit 100]⟩⟩
noncomputable def SS49 : Str := ⟨⟨[nat_lit 114, nat_lit 115, nat_lit 49]⟩⟩
noncomputable def SS50 : Str := ⟨⟨[nat_lit 114, nat_lit 115, nat_lit 50]⟩⟩
noncomputable def SS51 : Str := ⟨⟨[nat_lit 105, nat_lit 109, nat_lit 109]⟩⟩
noncomputable def SS52 : Str := ⟨⟨[nat_lit 99, nat_lit 115, nat_lit 114]⟩⟩
noncomputable def SS53 : Str := ⟨⟨[nat_lit 73, nat_lit 110, nat_lit 115, nat_lit 116, nat_lit 114, nat_lit 117, nat_lit 99, nat_lit 116, nat_lit 105, nat_lit 111, nat_lit 110, nat_lit 46, nat_lit 95, nat_lit 95, nat_lit 105, nat_lit 110, nat_lit 105, nat_lit 116, nat_lit 95, nat_lit 95]⟩⟩
noncomputable def SS54 : Str := ⟨⟨[nat_lit 73, nat_lit 110, nat_lit 115, nat_lit 116, nat_lit 114, nat_lit 117, nat_lit 99, nat_lit 116, nat_lit 105, nat_lit 111, nat_lit 110, nat_lit 46, nat_lit 102, nat_lit 105, nat_lit 101, nat_lit 108, nat_lit 100, nat_lit 115]⟩⟩
noncomputable def SS55 : Str := ⟨⟨[nat_lit 95, nat_lit 95, nat_lit 100, nat_lit 105, nat_lit 99, nat_lit 116, nat_lit 95, nat_lit 95]⟩⟩
noncomputable def SS56 : Str := ⟨⟨[nat_lit 102, nat_lit 105, nat_lit 120, nat_lit 101, nat_lit 100]⟩⟩
noncomputable def SS57 : Str := ⟨⟨[nat_lit 107, nat_lit 105, nat_lit 110, nat_lit 100]⟩⟩
noncomputable def SS58 : Str := ⟨⟨[nat_lit 111, nat_lit 112, nat_lit 99, nat_lit 111, nat_lit 100, nat_lit 101]⟩⟩
noncomputable def SS59 : Str := ⟨⟨[nat_lit 116, nat_lit 104, nat_lit 105, nat_lit 114, nat_lit 100]⟩⟩
noncomputable def SS60 : Str := ⟨⟨[nat_lit 115, nat_lit 101, nat_lit 118, nat_lit 101, nat_lit 110, nat_lit 116, nat_lit 104]⟩⟩
noncomputable def SS61 : Str := ⟨⟨[nat_lit 83, nat_lit 104, nat_lit 97, nat_lit 112, nat_lit 101, nat_lit 46, nat_lit 95, nat_lit 95, nat_lit 105, nat_lit 110, nat_lit 105, nat_lit 116, nat_lit 95, nat_lit 95]⟩⟩
noncomputable def SS62 : Str := ⟨⟨[nat_lit 83, nat_lit 104, nat_lit 97, nat_lit 112, nat_lit 101, nat_lit 46, nat_lit 102, nat_lit 105, nat_lit 120, nat_lit 101, nat_lit 100]⟩⟩
noncomputable def SS63 : Str := ⟨⟨[nat_lit 110, nat_lit 97, nat_lit 109, nat_lit 101, nat_lit 115]⟩⟩
noncomputable def SS64 : Str := ⟨⟨[nat_lit 102, nat_lit 111, nat_lit 117, nat_lit 110, nat_lit 100]⟩⟩
noncomputable def SS65 : Str := ⟨⟨[nat_lit 110, nat_lit 117, nat_lit 109, nat_lit 98, nat_lit 101, nat_lit 114]⟩⟩
noncomputable def SS66 : Str := ⟨⟨[nat_lit 75, nat_lit 110, nat_lit 111, nat_lit 119, nat_lit 110]⟩⟩
noncomputable def SS67 : Str := ⟨⟨[nat_lit 108, nat_lit 117, nat_lit 105]⟩⟩
noncomputable def SS68 : Str := ⟨⟨[nat_lit 85]⟩⟩
noncomputable def SS69 : Str := ⟨⟨[nat_lit 97, nat_lit 117, nat_lit 105, nat_lit 112, nat_lit 99]⟩⟩
noncomputable def SS70 : Str := ⟨⟨[nat_lit 106, nat_lit 97, nat_lit 108]⟩⟩
noncomputable def SS71 : Str := ⟨⟨[nat_lit 74]⟩⟩
noncomputable def SS72 : Str := ⟨⟨[nat_lit 106, nat_lit 97, nat_lit 108, nat_lit 114]⟩⟩
noncomputable def SS73 : Str := ⟨⟨[nat_lit 73]⟩⟩
noncomputable def SS74 : Str := ⟨⟨[nat_lit 98, nat_lit 101, nat_lit 113, nat_lit 32, nat_lit 98, nat_lit 110, nat_lit 101, nat_lit 32, nat_lit 45, nat_lit 32, nat_lit 45, nat_lit 32, nat_lit 98, nat_lit 108, nat_lit 116, nat_lit 32, nat_lit 98, nat_lit 103, nat_lit 101, nat_lit 32, nat_lit 98, nat_lit 108, nat_lit 116, nat_lit 117, nat_lit 32, nat_lit 98, nat_lit 103, nat_lit 101, nat_lit 117]⟩⟩
noncomputable def SS75 : Str := ⟨⟨[nat_lit 66]⟩⟩
noncomputable def SS76 : Str := ⟨⟨[nat_lit 98, nat_lit 103, nat_lit 101, nat_lit 117]⟩⟩
noncomputable def SS77 : Str := ⟨⟨[nat_lit 98, nat_lit 101, nat_lit 113]⟩⟩
noncomputable def SS78 : Str := ⟨⟨[nat_lit 98, nat_lit 110, nat_lit 101]⟩⟩
noncomputable def SS79 : Str := ⟨⟨[nat_lit 45]⟩⟩
noncomputable def SS80 : Str := ⟨⟨[nat_lit 98, nat_lit 108, nat_lit 116]⟩⟩
noncomputable def SS81 : Str := ⟨⟨[nat_lit 98, nat_lit 103, nat_lit 101]⟩⟩
noncomputable def SS82 : Str := ⟨⟨[nat_lit 98, nat_lit 108, nat_lit 116, nat_lit 117]⟩⟩
noncomputable def SS83 : Str := ⟨⟨[nat_lit 108, nat_lit 98, nat_lit 32, nat_lit 108, nat_lit 104, nat_lit 32, nat_lit 108, nat_lit 119, nat_lit 32, nat_lit 45, nat_lit 32, nat_lit 108, nat_lit 98, nat_lit 117, nat_lit 32, nat_lit 108, nat_lit 104, nat_lit 117]⟩⟩
noncomputable def SS84 : Str := ⟨⟨[nat_lit 108, nat_lit 104, nat_lit 117]⟩⟩
noncomputable def SS85 : Str := ⟨⟨[nat_lit 108, nat_lit 98]⟩⟩
noncomputable def SS86 : Str := ⟨⟨[nat_lit 108, nat_lit 104]⟩⟩
noncomputable def SS87 : Str := ⟨⟨[nat_lit 108, nat_lit 119]⟩⟩
noncomputable def SS88 : Str := ⟨⟨[nat_lit 108, nat_lit 98, nat_lit 117]⟩⟩
noncomputable def SS89 : Str := ⟨⟨[nat_lit 115, nat_lit 98, nat_lit 32, nat_lit 115, nat_lit 104, nat_lit 32, nat_lit 115, nat_lit 119]⟩⟩
noncomputable def SS90 : Str := ⟨⟨[nat_lit 83]⟩⟩
noncomputable def SS91 : Str := ⟨⟨[nat_lit 115, nat_lit 119]⟩⟩
noncomputable def SS92 : Str := ⟨⟨[nat_lit 115, nat_lit 98]⟩⟩
noncomputable def SS93 : Str := ⟨⟨[nat_lit 115, nat_lit 104]⟩⟩
noncomputable def SS94 : Str := ⟨⟨[nat_lit 97, nat_lit 100, nat_lit 100, nat_lit 105, nat_lit 32, nat_lit 45, nat_lit 32, nat_lit 115, nat_lit 108, nat_lit 116, nat_lit 105, nat_lit 32, nat_lit 115, nat_lit 108, nat_lit 116, nat_lit 105, nat_lit 117, nat_lit 32, nat_lit 120, nat_lit 111, nat_lit 114, nat_lit 105, nat_lit 32, nat_lit 45, nat_lit 32, nat_lit 111, nat_lit 114, nat_lit 105, nat_lit 32, nat_lit 97, nat_lit 110, nat_lit 100, nat_lit 105]⟩⟩
noncomputable def SS95 : Str := ⟨⟨[nat_lit 97, nat_lit 110, nat_lit 100, nat_lit 105]⟩⟩
noncomputable def SS96 : Str := ⟨⟨[nat_lit 97, nat_lit 100, nat_lit 100, nat_lit 105]⟩⟩
noncomputable def SS97 : Str := ⟨⟨[nat_lit 115, nat_lit 108, nat_lit 116, nat_lit 105]⟩⟩
noncomputable def SS98 : Str := ⟨⟨[nat_lit 115, nat_lit 108, nat_lit 116, nat_lit 105, nat_lit 117]⟩⟩
noncomputable def SS99 : Str := ⟨⟨[nat_lit 120, nat_lit 111, nat_lit 114, nat_lit 105]⟩⟩
noncomputable def SS100 : Str := ⟨⟨[nat_lit 111, nat_lit 114, nat_lit 105]⟩⟩
noncomputable def SS101 : Str := ⟨⟨[nat_lit 45, nat_lit 32, nat_lit 115, nat_lit 108, nat_lit 108, nat_lit 105, nat_lit 32, nat_lit 45, nat_lit 32, nat_lit 45, nat_lit 32, nat_lit 45, nat_lit 32, nat_lit 115, nat_lit 114, nat_lit 108, nat_lit 105]⟩⟩
noncomputable def SS102 : Str := ⟨⟨[nat_lit 115, nat_lit 104, nat_lit 105, nat_lit 102, nat_lit 116]⟩⟩
noncomputable def SS103 : Str := ⟨⟨[nat_lit 115, nat_lit 114, nat_lit 108, nat_lit 105]⟩⟩
noncomputable def SS104 : Str := ⟨⟨[nat_lit 115, nat_lit 108, nat_lit 108, nat_lit 105]⟩⟩
noncomputable def SS105 : Str := ⟨⟨[nat_lit 45, nat_lit 32, nat_lit 45, nat_lit 32, nat_lit 45, nat_lit 32, nat_lit 45, nat_lit 32, nat_lit 45, nat_lit 32, nat_lit 115, nat_lit 114, nat_lit 97, nat_lit 105]⟩⟩
noncomputable def SS106 : Str := ⟨⟨[nat_lit 115, nat_lit 114, nat_lit 97, nat_lit 105]⟩⟩
noncomputable def SS107 : Str := ⟨⟨[nat_lit 97, nat_lit 100, nat_lit 100, nat_lit 32, nat_lit 115, nat_lit 108, nat_lit 108, nat_lit 32, nat_lit 115, nat_lit 108, nat_lit 116, nat_lit 32, nat_lit 115, nat_lit 108, nat_lit 116, nat_lit 117, nat_lit 32, nat_lit 120, nat_lit 111, nat_lit 114, nat_lit 32, nat_lit 115, nat_lit 114, nat_lit 108, nat_lit 32, nat_lit 111, nat_lit 114, nat_lit 32, nat_lit 97, nat_lit 110, nat_lit 100]⟩⟩
noncomputable def SS108 : Str := ⟨⟨[nat_lit 82]⟩⟩
noncomputable def SS109 : Str := ⟨⟨[nat_lit 97, nat_lit 110, nat_lit 100]⟩⟩
noncomputable def SS110 : Str := ⟨⟨[nat_lit 97, nat_lit 100, nat_lit 100]⟩⟩
noncomputable def SS111 : Str := ⟨⟨[nat_lit 115, nat_lit 108, nat_lit 108]⟩⟩
noncomputable def SS112 : Str := ⟨⟨[nat_lit 115, nat_lit 108, nat_lit 116]⟩⟩
noncomputable def SS113 : Str := ⟨⟨[nat_lit 115, nat_lit 108, nat_lit 116, nat_lit 117]⟩⟩
noncomputable def SS114 : Str := ⟨⟨[nat_lit 120, nat_lit 111, nat_lit 114]⟩⟩
noncomputable def SS115 : Str := ⟨⟨[nat_lit 115, nat_lit 114, nat_lit 108]⟩⟩
noncomputable def SS116 : Str := ⟨⟨[nat_lit 111, nat_lit 114]⟩⟩
noncomputable def SS117 : Str := ⟨⟨[nat_lit 115, nat_lit 117, nat_lit 98, nat_lit 32, nat_lit 45, nat_lit 32, nat_lit 45, nat_lit 32, nat_lit 45, nat_lit 32, nat_lit 45, nat_lit 32, nat_lit 115, nat_lit 114, nat_lit 97]⟩⟩
noncomputable def SS118 : Str := ⟨⟨[nat_lit 115, nat_lit 114, nat_lit 97]⟩⟩
noncomputable def SS119 : Str := ⟨⟨[nat_lit 115, nat_lit 117, nat_lit 98]⟩⟩
noncomputable def SS120 : Str := ⟨⟨[nat_lit 109, nat_lit 117, nat_lit 108, nat_lit 32, nat_lit 109, nat_lit 117, nat_lit 108, nat_lit 104, nat_lit 32, nat_lit 109, nat_lit 117, nat_lit 108, nat_lit 104, nat_lit 115, nat_lit 117, nat_lit 32, nat_lit 109, nat_lit 117, nat_lit 108, nat_lit 104, nat_lit 117, nat_lit 32, nat_lit 100, nat_lit 105, nat_lit 118, nat_lit 32, nat_lit 100, nat_lit 105, nat_lit 118, nat_lit 117, nat_lit 32, nat_lit 114, nat_lit 101, nat_lit 109, nat_lit 32, nat_lit 114, nat_lit 101, nat_lit 109, nat_lit 117]⟩⟩
noncomputable def SS121 : Str := ⟨⟨[nat_lit 114, nat_lit 101, nat_lit 109, nat_lit 117]⟩⟩
noncomputable def SS122 : Str := ⟨⟨[nat_lit 109, nat_lit 117, nat_lit 108]⟩⟩
noncomputable def SS123 : Str := ⟨⟨[nat_lit 109, nat_lit 117, nat_lit 108, nat_lit 104]⟩⟩
noncomputable def SS124 : Str := ⟨⟨[nat_lit 109, nat_lit 117, nat_lit 108, nat_lit 104, nat_lit 115, nat_lit 117]⟩⟩
noncomputable def SS125 : Str := ⟨⟨[nat_lit 109, nat_lit 117, nat_lit 108, nat_lit 104, nat_lit 117]⟩⟩
noncomputable def SS126 : Str := ⟨⟨[nat_lit 100, nat_lit 105, nat_lit 118]⟩⟩
noncomputable def SS127 : Str := ⟨⟨[nat_lit 100, nat_lit 105, nat_lit 118, nat_lit 117]⟩⟩
noncomputable def SS128 : Str := ⟨⟨[nat_lit 114, nat_lit 101, nat_lit 109]⟩⟩
noncomputable def SS129 : Str := ⟨⟨[nat_lit 102, nat_lit 101, nat_lit 110, nat_lit 99, nat_lit 101, nat_lit 32, nat_lit 102, nat_lit 101, nat_lit 110, nat_lit 99, nat_lit 101, nat_lit 46, nat_lit 105]⟩⟩
noncomputable def SS130 : Str := ⟨⟨[nat_lit 102, nat_lit 101, nat_lit 110, nat_lit 99, nat_lit 101]⟩⟩
noncomputable def SS131 : Str := ⟨⟨[nat_lit 102, nat_lit 101, nat_lit 110, nat_lit 99, nat_lit 101, nat_lit 46, nat_lit 105]⟩⟩
noncomputable def SS132 : Str := ⟨⟨[nat_lit 45, nat_lit 32, nat_lit 99, nat_lit 115, nat_lit 114, nat_lit 114, nat_lit 119, nat_lit 32, nat_lit 99, nat_lit 115, nat_lit 114, nat_lit 114, nat_lit 115, nat_lit 32, nat_lit 99, nat_lit 115, nat_lit 114, nat_lit 114, nat_lit 99]⟩⟩
noncomputable def SS133 : Str := ⟨⟨[nat_lit 67, nat_lit 83, nat_lit 82]⟩⟩
noncomputable def SS134 : Str := ⟨⟨[nat_lit 99, nat_lit 115, nat_lit 114, nat_lit 114, nat_lit 99]⟩⟩
noncomputable def SS135 : Str := ⟨⟨[nat_lit 99, nat_lit 115, nat_lit 114, nat_lit 114, nat_lit 119]⟩⟩
noncomputable def SS136 : Str := ⟨⟨[nat_lit 99, nat_lit 115, nat_lit 114, nat_lit 114, nat_lit 115]⟩⟩
noncomputable def SS137 : Str := ⟨⟨[nat_lit 45, nat_lit 32, nat_lit 45, nat_lit 32, nat_lit 45, nat_lit 32, nat_lit 45, nat_lit 32, nat_lit 45, nat_lit 32, nat_lit 99, nat_lit 115, nat_lit 114, nat_lit 114, nat_lit 119, nat_lit 105, nat_lit 32, nat_lit 99, nat_lit 115, nat_lit 114, nat_lit 114, nat_lit 115, nat_lit 105, nat_lit 32, nat_lit 99, nat_lit 115, nat_lit 114, nat_lit 114, nat_lit 99, nat_lit 105]⟩⟩
noncomputable def SS138 : Str := ⟨⟨[nat_lit 67, nat_lit 83, nat_lit 82, nat_lit 73]⟩⟩
noncomputable def SS139 : Str := ⟨⟨[nat_lit 99, nat_lit 115, nat_lit 114, nat_lit 114, nat_lit 99, nat_lit 105]⟩⟩
noncomputable def SS140 : Str := ⟨⟨[nat_lit 99, nat_lit 115, nat_lit 114, nat_lit 114, nat_lit 119, nat_lit 105]⟩⟩
noncomputable def SS141 : Str := ⟨⟨[nat_lit 99, nat_lit 115, nat_lit 114, nat_lit 114, nat_lit 115, nat_lit 105]⟩⟩
noncomputable def SS142 : Str := ⟨⟨[nat_lit 83, nat_lit 72, nat_lit 65, nat_lit 80, nat_lit 69, nat_lit 83]⟩⟩
noncomputable def SS143 : Str := ⟨⟨[nat_lit 109, nat_lit 114, nat_lit 101, nat_lit 116]⟩⟩
noncomputable def SS144 : Str := ⟨⟨[nat_lit 115, nat_lit 102, nat_lit 101, nat_lit 110, nat_lit 99, nat_lit 101, nat_lit 46, nat_lit 118, nat_lit 109, nat_lit 97]⟩⟩
noncomputable def SS145 : Str := ⟨⟨[nat_lit 102, nat_lit 108, nat_lit 117, nat_lit 115, nat_lit 104]⟩⟩
noncomputable def SS146 : Str := ⟨⟨[nat_lit 101, nat_lit 99, nat_lit 97, nat_lit 108, nat_lit 108]⟩⟩
noncomputable def SS147 : Str := ⟨⟨[nat_lit 101, nat_lit 98, nat_lit 114, nat_lit 101, nat_lit 97, nat_lit 107]⟩⟩
noncomputable def SS148 : Str := ⟨⟨[nat_lit 115, nat_lit 114, nat_lit 101, nat_lit 116]⟩⟩
noncomputable def SS149 : Str := ⟨⟨[nat_lit 119, nat_lit 102, nat_lit 105]⟩⟩
noncomputable def SS150 : Str := ⟨⟨[nat_lit 115, nat_lit 121, nat_lit 115, nat_lit 116, nat_lit 101, nat_lit 109]⟩⟩
noncomputable def SS151 : Str := ⟨⟨[nat_lit 66, nat_lit 89, nat_lit 95, nat_lit 78, nat_lit 65, nat_lit 77, nat_lit 69]⟩⟩
noncomputable def SS152 : Str := ⟨⟨[nat_lit 66, nat_lit 89, nat_lit 95, nat_lit 79, nat_lit 80, nat_lit 67, nat_lit 79, nat_lit 68, nat_lit 69]⟩⟩
noncomputable def SS153 : Str := ⟨⟨[nat_lit 115, nat_lit 104, nat_lit 97, nat_lit 112, nat_lit 101]⟩⟩
noncomputable def SS154 : Str := ⟨⟨[nat_lit 66, nat_lit 89, nat_lit 95, nat_lit 84, nat_lit 72, nat_lit 73, nat_lit 82, nat_lit 68]⟩⟩
noncomputable def SS155 : Str := ⟨⟨[nat_lit 66, nat_lit 89, nat_lit 95, nat_lit 83, nat_lit 69, nat_lit 86, nat_lit 69, nat_lit 78, nat_lit 84, nat_lit 72]⟩⟩
noncomputable def SS156 : Str := ⟨⟨[nat_lit 108, nat_lit 97, nat_lit 119, nat_lit 95, nat_lit 112, nat_lit 102, nat_lit 48, nat_lit 50, nat_lit 49, nat_lit 54, nat_lit 95, nat_lit 48, nat_lit 49]⟩⟩
noncomputable def SS157 : Str := ⟨⟨[nat_lit 85, nat_lit 83, nat_lit 69, nat_lit 68]⟩⟩
noncomputable def SS158 : Str := ⟨⟨[nat_lit 82, nat_lit 65, nat_lit 78, nat_lit 71, nat_lit 69, nat_lit 83]⟩⟩
noncomputable def SS159 : Str := ⟨⟨[nat_lit 115, nat_lit 104, nat_lit 97, nat_lit 112, nat_lit 101, nat_lit 95, nat_lit 111, nat_lit 102]⟩⟩
noncomputable def SS160 : Str := ⟨⟨[nat_lit 99, nat_lit 104, nat_lit 101, nat_lit 99, nat_lit 107]⟩⟩
noncomputable def SS161 : Str := ⟨⟨[nat_lit 115, nat_lit 112, nat_lit 114, nat_lit 101, nat_lit 97, nat_lit 100, nat_lit 95, nat_lit 98, nat_lit 114, nat_lit 97, nat_lit 110, nat_lit 99, nat_lit 104]⟩⟩
noncomputable def SS162 : Str := ⟨⟨[nat_lit 115, nat_lit 112, nat_lit 114, nat_lit 101, nat_lit 97, nat_lit 100, nat_lit 95, nat_lit 106, nat_lit 117, nat_lit 109, nat_lit 112]⟩⟩
noncomputable def SS163 : Str := ⟨⟨[nat_lit 101, nat_lit 110, nat_lit 99, nat_lit 111, nat_lit 100, nat_lit 101]⟩⟩
noncomputable def SS164 : Str := ⟨⟨[nat_lit 103, nat_lit 97, nat_lit 116, nat_lit 104, nat_lit 101, nat_lit 114, nat_lit 101, nat_lit 100, nat_lit 95, nat_lit 98, nat_lit 114, nat_lit 97, nat_lit 110, nat_lit 99, nat_lit 104]⟩⟩
noncomputable def SS165 : Str := ⟨⟨[nat_lit 103, nat_lit 97, nat_lit 116, nat_lit 104, nat_lit 101, nat_lit 114, nat_lit 101, nat_lit 100, nat_lit 95, nat_lit 106, nat_lit 117, nat_lit 109, nat_lit 112]⟩⟩
noncomputable def SS166 : Str := ⟨⟨[nat_lit 102, nat_lit 105, nat_lit 110, nat_lit 100, nat_lit 95, nat_lit 115, nat_lit 104, nat_lit 97, nat_lit 112, nat_lit 101]⟩⟩
noncomputable def SS167 : Str := ⟨⟨[nat_lit 100, nat_lit 101, nat_lit 99, nat_lit 111, nat_lit 100, nat_lit 101]⟩⟩
noncomputable def SS168 : Str := ⟨⟨[nat_lit 95, nat_lit 108, nat_lit 97, nat_lit 119, nat_lit 95, nat_lit 116, nat_lit 97, nat_lit 107, nat_lit 101]⟩⟩
noncomputable def SS169 : Str := ⟨⟨[nat_lit 95, nat_lit 108, nat_lit 97, nat_lit 119, nat_lit 95, nat_lit 116, nat_lit 104, nat_lit 105, nat_lit 114, nat_lit 100, nat_lit 115]⟩⟩
noncomputable def SS170 : Str := ⟨⟨[nat_lit 95, nat_lit 108, nat_lit 97, nat_lit 119, nat_lit 95, nat_lit 114, nat_lit 111, nat_lit 119, nat_lit 115]⟩⟩
noncomputable def SS171 : Str := ⟨⟨[nat_lit 95, nat_lit 108, nat_lit 97, nat_lit 119, nat_lit 95, nat_lit 98, nat_lit 121, nat_lit 95, nat_lit 104, nat_lit 105, nat_lit 103, nat_lit 104]⟩⟩
noncomputable def SS172 : Str := ⟨⟨[nat_lit 95, nat_lit 108, nat_lit 97, nat_lit 119, nat_lit 95, nat_lit 110, nat_lit 97, nat_lit 109, nat_lit 101, nat_lit 95, nat_lit 111, nat_lit 102]⟩⟩
noncomputable def SS173 : Str := ⟨⟨[nat_lit 95, nat_lit 108, nat_lit 97, nat_lit 119, nat_lit 95, nat_lit 119, nat_lit 111, nat_lit 114, nat_lit 100, nat_lit 95, nat_lit 114, nat_lit 105, nat_lit 103, nat_lit 104, nat_lit 116]⟩⟩
noncomputable def SS174 : Str := ⟨⟨[nat_lit 95, nat_lit 108, nat_lit 97, nat_lit 119, nat_lit 95, nat_lit 109, nat_lit 97, nat_lit 110, nat_lit 121]⟩⟩
noncomputable def SS175 : Str := ⟨⟨[nat_lit 108, nat_lit 97, nat_lit 119]⟩⟩
noncomputable def SS176 : Str := ⟨⟨[nat_lit 87, nat_lit 72, nat_lit 79, nat_lit 76, nat_lit 69]⟩⟩
noncomputable def SS177 : Str := ⟨⟨[nat_lit 105, nat_lit 110, nat_lit 115, nat_lit 116, nat_lit 114, nat_lit 117, nat_lit 99, nat_lit 116, nat_lit 105, nat_lit 111, nat_lit 110]⟩⟩
noncomputable def SS178 : Str := ⟨⟨[nat_lit 117, nat_lit 115, nat_lit 101, nat_lit 100]⟩⟩
noncomputable def SS179 : Str := ⟨⟨[nat_lit 110, nat_lit 117, nat_lit 109, nat_lit 98, nat_lit 101, nat_lit 114, nat_lit 115]⟩⟩
noncomputable def SS180 : Str := ⟨⟨[nat_lit 108, nat_lit 101, nat_lit 97, nat_lit 115, nat_lit 116]⟩⟩
noncomputable def SS181 : Str := ⟨⟨[nat_lit 103, nat_lit 114, nat_lit 101, nat_lit 97, nat_lit 116, nat_lit 101, nat_lit 115, nat_lit 116]⟩⟩
noncomputable def SS182 : Str := ⟨⟨[nat_lit 115, nat_lit 116, nat_lit 101, nat_lit 112]⟩⟩
noncomputable def SS183 : Str := ⟨⟨[nat_lit 108, nat_lit 111, nat_lit 119]⟩⟩
noncomputable def SS184 : Str := ⟨⟨[nat_lit 104, nat_lit 105, nat_lit 103, nat_lit 104]⟩⟩
noncomputable def SS185 : Str := ⟨⟨[nat_lit 116, nat_lit 97, nat_lit 112, nat_lit 101]⟩⟩
noncomputable def SS186 : Str := ⟨⟨[nat_lit 109, nat_lit 97, nat_lit 110, nat_lit 121]⟩⟩
noncomputable def SS187 : Str := ⟨⟨[nat_lit 97, nat_lit 116]⟩⟩
noncomputable def SS188 : Str := ⟨⟨[nat_lit 119, nat_lit 104, nat_lit 111, nat_lit 108, nat_lit 101]⟩⟩
noncomputable def SS189 : Str := ⟨⟨[nat_lit 114, nat_lit 111, nat_lit 119, nat_lit 115]⟩⟩
noncomputable def SS190 : Str := ⟨⟨[nat_lit 97, nat_lit 108, nat_lit 111, nat_lit 110, nat_lit 101]⟩⟩
noncomputable def SS191 : Str := ⟨⟨[nat_lit 109, nat_lit 101, nat_lit 116]⟩⟩
noncomputable def SS192 : Str := ⟨⟨[nat_lit 100, nat_lit 117, nat_lit 101]⟩⟩
noncomputable def SS193 : Str := ⟨⟨[nat_lit 116, nat_lit 111, nat_lit 108, nat_lit 100]⟩⟩
noncomputable def SS194 : Str := ⟨⟨[nat_lit 98, nat_lit 121, nat_lit 95, nat_lit 104, nat_lit 105, nat_lit 103, nat_lit 104]⟩⟩
noncomputable def SS195 : Str := ⟨⟨[nat_lit 32]⟩⟩
noncomputable def SS196 : Str := ⟨⟨[nat_lit 45, nat_lit 32, nat_lit 99, nat_lit 115, nat_lit 114, nat_lit 114, nat_lit 119, nat_lit 32, nat_lit 99, nat_lit 115, nat_lit 114, nat_lit 114, nat_lit 115, nat_lit 32, nat_lit 99, nat_lit 115, nat_lit 114, nat_lit 114, nat_lit 99, nat_lit 32, nat_lit 45, nat_lit 32, nat_lit 99, nat_lit 115, nat_lit 114, nat_lit 114, nat_lit 119, nat_lit 105, nat_lit 32, nat_lit 99, nat_lit 115, nat_lit 114, nat_lit 114, nat_lit 115, nat_lit 105, nat_lit 32, nat_lit 99, nat_lit 115, nat_lit 114, nat_lit 114, nat_lit 99, nat_lit 105]⟩⟩
noncomputable def SS197 : Str := ⟨⟨[nat_lit 46, nat_lit 48]⟩⟩
noncomputable def SS198 : Str := ⟨⟨[nat_lit 48, nat_lit 56, nat_lit 120]⟩⟩
noncomputable def SS199 : Str := ⟨⟨[nat_lit 86, nat_lit 97, nat_lit 108, nat_lit 117, nat_lit 101, nat_lit 69, nat_lit 114, nat_lit 114, nat_lit 111, nat_lit 114]⟩⟩
noncomputable def SS200 : Str := ⟨⟨[nat_lit 97, nat_lit 32, nat_lit 102, nat_lit 105, nat_lit 101, nat_lit 108, nat_lit 100, nat_lit 32, nat_lit 116, nat_lit 104, nat_lit 97, nat_lit 116, nat_lit 32, nat_lit 105, nat_lit 115, nat_lit 32, nat_lit 110, nat_lit 111, nat_lit 32, nat_lit 119, nat_lit 104, nat_lit 111, nat_lit 108, nat_lit 101, nat_lit 32, nat_lit 110, nat_lit 117, nat_lit 109, nat_lit 98, nat_lit 101, nat_lit 114]⟩⟩
noncomputable def SS201 : Str := ⟨⟨[nat_lit 97, nat_lit 32, nat_lit 102, nat_lit 105, nat_lit 101, nat_lit 108, nat_lit 100, nat_lit 32, nat_lit 116, nat_lit 104, nat_lit 97, nat_lit 116, nat_lit 32, nat_lit 116, nat_lit 104, nat_lit 101, nat_lit 32, nat_lit 102, nat_lit 111, nat_lit 114, nat_lit 109, nat_lit 97, nat_lit 116, nat_lit 32, nat_lit 100, nat_lit 111, nat_lit 101, nat_lit 115, nat_lit 32, nat_lit 110, nat_lit 111, nat_lit 116, nat_lit 32, nat_lit 104, nat_lit 97, nat_lit 118, nat_lit 101]⟩⟩
noncomputable def SS202 : Str := ⟨⟨[nat_lit 97, nat_lit 32, nat_lit 110, nat_lit 117, nat_lit 109, nat_lit 98, nat_lit 101, nat_lit 114, nat_lit 32, nat_lit 111, nat_lit 117, nat_lit 116, nat_lit 32, nat_lit 111, nat_lit 102, nat_lit 32, nat_lit 105, nat_lit 116, nat_lit 115, nat_lit 32, nat_lit 114, nat_lit 97, nat_lit 110, nat_lit 103, nat_lit 101]⟩⟩
noncomputable def SS203 : Str := ⟨⟨[nat_lit 97, nat_lit 32, nat_lit 114, nat_lit 101, nat_lit 103, nat_lit 105, nat_lit 115, nat_lit 116, nat_lit 101, nat_lit 114, nat_lit 32, nat_lit 111, nat_lit 114, nat_lit 32, nat_lit 97, nat_lit 32, nat_lit 67, nat_lit 83, nat_lit 82, nat_lit 32, nat_lit 116, nat_lit 104, nat_lit 97, nat_lit 116, nat_lit 32, nat_lit 116, nat_lit 104, nat_lit 101, nat_lit 114, nat_lit 101, nat_lit 32, nat_lit 105, nat_lit 115, nat_lit 32, nat_lit 110, nat_lit 111, nat_lit 116]⟩⟩
noncomputable def SS204 : Str := ⟨⟨[nat_lit 97, nat_lit 98, nat_lit 115]⟩⟩
noncomputable def SS205 : Str := ⟨⟨[nat_lit 97, nat_lit 112, nat_lit 112, nat_lit 101, nat_lit 110, nat_lit 100]⟩⟩
noncomputable def SS206 : Str := ⟨⟨[nat_lit 98, nat_lit 111, nat_lit 111, nat_lit 108]⟩⟩
noncomputable def SS207 : Str := ⟨⟨[nat_lit 99, nat_lit 101, nat_lit 108, nat_lit 108]⟩⟩
noncomputable def SS208 : Str := ⟨⟨[nat_lit 100, nat_lit 105, nat_lit 99, nat_lit 116]⟩⟩
noncomputable def SS209 : Str := ⟨⟨[nat_lit 101, nat_lit 110, nat_lit 117, nat_lit 109, nat_lit 101, nat_lit 114, nat_lit 97, nat_lit 116, nat_lit 101]⟩⟩
noncomputable def SS210 : Str := ⟨⟨[nat_lit 101, nat_lit 118, nat_lit 101, nat_lit 114, nat_lit 121]⟩⟩
noncomputable def SS211 : Str := ⟨⟨[nat_lit 101, nat_lit 120, nat_lit 116, nat_lit 101, nat_lit 110, nat_lit 100]⟩⟩
noncomputable def SS212 : Str := ⟨⟨[nat_lit 102, nat_lit 97, nat_lit 115, nat_lit 116]⟩⟩
noncomputable def SS213 : Str := ⟨⟨[nat_lit 102, nat_lit 101, nat_lit 110, nat_lit 99, nat_lit 101, nat_lit 32, nat_lit 102, nat_lit 101, nat_lit 110, nat_lit 99, nat_lit 101, nat_lit 46, nat_lit 105, nat_lit 32, nat_lit 45, nat_lit 32, nat_lit 45, nat_lit 32, nat_lit 45, nat_lit 32, nat_lit 45, nat_lit 32, nat_lit 45, nat_lit 32, nat_lit 45]⟩⟩
noncomputable def SS214 : Str := ⟨⟨[nat_lit 103, nat_lit 101, nat_lit 116]⟩⟩
noncomputable def SS215 : Str := ⟨⟨[nat_lit 105, nat_lit 110, nat_lit 116]⟩⟩
noncomputable def SS216 : Str := ⟨⟨[nat_lit 105, nat_lit 115, nat_lit 105, nat_lit 110, nat_lit 115, nat_lit 116, nat_lit 97, nat_lit 110, nat_lit 99, nat_lit 101]⟩⟩
noncomputable def SS217 : Str := ⟨⟨[nat_lit 105, nat_lit 116, nat_lit 101, nat_lit 109, nat_lit 115]⟩⟩
noncomputable def SS218 : Str := ⟨⟨[nat_lit 106, nat_lit 97, nat_lit 108, nat_lit 114, nat_lit 32, nat_lit 45, nat_lit 32, nat_lit 45, nat_lit 32, nat_lit 45, nat_lit 32, nat_lit 45, nat_lit 32, nat_lit 45, nat_lit 32, nat_lit 45, nat_lit 32, nat_lit 45]⟩⟩
noncomputable def SS219 : Str := ⟨⟨[nat_lit 108, nat_lit 98, nat_lit 32, nat_lit 108, nat_lit 104, nat_lit 32, nat_lit 108, nat_lit 119, nat_lit 32, nat_lit 45, nat_lit 32, nat_lit 108, nat_lit 98, nat_lit 117, nat_lit 32, nat_lit 108, nat_lit 104, nat_lit 117, nat_lit 32, nat_lit 45, nat_lit 32, nat_lit 45]⟩⟩
noncomputable def SS220 : Str := ⟨⟨[nat_lit 108, nat_lit 101, nat_lit 110]⟩⟩
noncomputable def SS221 : Str := ⟨⟨[nat_lit 110, nat_lit 111, nat_lit 32, nat_lit 105, nat_lit 110, nat_lit 115, nat_lit 116, nat_lit 114, nat_lit 117, nat_lit 99, nat_lit 116, nat_lit 105, nat_lit 111, nat_lit 110, nat_lit 32, nat_lit 111, nat_lit 102, nat_lit 32, nat_lit 115, nat_lit 117, nat_lit 99, nat_lit 104, nat_lit 32, nat_lit 97, nat_lit 32, nat_lit 110, nat_lit 97, nat_lit 109, nat_lit 101]⟩⟩
noncomputable def SS222 : Str := ⟨⟨[nat_lit 110, nat_lit 111, nat_lit 32, nat_lit 105, nat_lit 110, nat_lit 115, nat_lit 116, nat_lit 114, nat_lit 117, nat_lit 99, nat_lit 116, nat_lit 105, nat_lit 111, nat_lit 110, nat_lit 58, nat_lit 32]⟩⟩
noncomputable def SS223 : Str := ⟨⟨[nat_lit 111, nat_lit 110, nat_lit 101]⟩⟩
noncomputable def SS224 : Str := ⟨⟨[nat_lit 111, nat_lit 116, nat_lit 104, nat_lit 101, nat_lit 114]⟩⟩
noncomputable def SS225 : Str := ⟨⟨[nat_lit 114, nat_lit 97, nat_lit 110, nat_lit 103, nat_lit 101]⟩⟩
noncomputable def SS226 : Str := ⟨⟨[nat_lit 114, nat_lit 101, nat_lit 115, nat_lit 116]⟩⟩
noncomputable def SS227 : Str := ⟨⟨[nat_lit 115, nat_lit 98, nat_lit 32, nat_lit 115, nat_lit 104, nat_lit 32, nat_lit 115, nat_lit 119, nat_lit 32, nat_lit 45, nat_lit 32, nat_lit 45, nat_lit 32, nat_lit 45, nat_lit 32, nat_lit 45, nat_lit 32, nat_lit 45]⟩⟩
noncomputable def SS228 : Str := ⟨⟨[nat_lit 115, nat_lit 99, nat_lit 114, nat_lit 105, nat_lit 112, nat_lit 116]⟩⟩
noncomputable def SS229 : Str := ⟨⟨[nat_lit 115, nat_lit 109, nat_lit 97, nat_lit 108, nat_lit 108]⟩⟩
noncomputable def SS230 : Str := ⟨⟨[nat_lit 115, nat_lit 112, nat_lit 108, nat_lit 105, nat_lit 116]⟩⟩
noncomputable def SS231 : Str := ⟨⟨[nat_lit 115, nat_lit 117, nat_lit 109]⟩⟩
noncomputable def SS232 : Str := ⟨⟨[nat_lit 116, nat_lit 101, nat_lit 120, nat_lit 116]⟩⟩
noncomputable def SS233 : Str := ⟨⟨[nat_lit 116, nat_lit 104, nat_lit 105, nat_lit 114, nat_lit 100, nat_lit 115]⟩⟩
noncomputable def SS234 : Str := ⟨⟨[nat_lit 117, nat_lit 112, nat_lit 100, nat_lit 97, nat_lit 116, nat_lit 101]⟩⟩
noncomputable def U35 : UInt8 := PySem.W.S.mk8 (nat_lit 35) rfl
noncomputable def U46 : UInt8 := PySem.W.S.mk8 (nat_lit 46) rfl
noncomputable def U66 : UInt8 := PySem.W.S.mk8 (nat_lit 66) rfl
noncomputable def U69 : UInt8 := PySem.W.S.mk8 (nat_lit 69) rfl
noncomputable def U71 : UInt8 := PySem.W.S.mk8 (nat_lit 71) rfl
noncomputable def U73 : UInt8 := PySem.W.S.mk8 (nat_lit 73) rfl
noncomputable def U83 : UInt8 := PySem.W.S.mk8 (nat_lit 83) rfl
noncomputable def U86 : UInt8 := PySem.W.S.mk8 (nat_lit 86) rfl
noncomputable def U95 : UInt8 := PySem.W.S.mk8 (nat_lit 95) rfl
noncomputable def U97 : UInt8 := PySem.W.S.mk8 (nat_lit 97) rfl
noncomputable def U98 : UInt8 := PySem.W.S.mk8 (nat_lit 98) rfl
noncomputable def U99 : UInt8 := PySem.W.S.mk8 (nat_lit 99) rfl
noncomputable def U100 : UInt8 := PySem.W.S.mk8 (nat_lit 100) rfl
noncomputable def U101 : UInt8 := PySem.W.S.mk8 (nat_lit 101) rfl
noncomputable def U102 : UInt8 := PySem.W.S.mk8 (nat_lit 102) rfl
noncomputable def U103 : UInt8 := PySem.W.S.mk8 (nat_lit 103) rfl
noncomputable def U104 : UInt8 := PySem.W.S.mk8 (nat_lit 104) rfl
noncomputable def U105 : UInt8 := PySem.W.S.mk8 (nat_lit 105) rfl
noncomputable def U106 : UInt8 := PySem.W.S.mk8 (nat_lit 106) rfl
noncomputable def U107 : UInt8 := PySem.W.S.mk8 (nat_lit 107) rfl
noncomputable def U108 : UInt8 := PySem.W.S.mk8 (nat_lit 108) rfl
noncomputable def U109 : UInt8 := PySem.W.S.mk8 (nat_lit 109) rfl
noncomputable def U110 : UInt8 := PySem.W.S.mk8 (nat_lit 110) rfl
noncomputable def U111 : UInt8 := PySem.W.S.mk8 (nat_lit 111) rfl
noncomputable def U112 : UInt8 := PySem.W.S.mk8 (nat_lit 112) rfl
noncomputable def U113 : UInt8 := PySem.W.S.mk8 (nat_lit 113) rfl
noncomputable def U114 : UInt8 := PySem.W.S.mk8 (nat_lit 114) rfl
noncomputable def U115 : UInt8 := PySem.W.S.mk8 (nat_lit 115) rfl
noncomputable def U116 : UInt8 := PySem.W.S.mk8 (nat_lit 116) rfl
noncomputable def U117 : UInt8 := PySem.W.S.mk8 (nat_lit 117) rfl
noncomputable def U119 : UInt8 := PySem.W.S.mk8 (nat_lit 119) rfl
noncomputable def U120 : UInt8 := PySem.W.S.mk8 (nat_lit 120) rfl
noncomputable def U121 : UInt8 := PySem.W.S.mk8 (nat_lit 121) rfl
noncomputable def TS0 : String := PySem.W.S.litE [U100, U105, U99, U116] [nat_lit 100, nat_lit 105, nat_lit 99, nat_lit 116] rfl rfl
noncomputable def TS1 : String := PySem.W.S.litE [U95, U95, U109, U97, U105, U110, U95, U95, U46, U95, U95, U108, U111, U97, U100, U101, U114, U95, U95, U35, U111, U112, U97, U113, U117, U101] [nat_lit 95, nat_lit 95, nat_lit 109, nat_lit 97, nat_lit 105, nat_lit 110, nat_lit 95, nat_lit 95, nat_lit 46, nat_lit 95, nat_lit 95, nat_lit 108, nat_lit 111, nat_lit 97, nat_lit 100, nat_lit 101, nat_lit 114, nat_lit 95, nat_lit 95, nat_lit 35, nat_lit 111, nat_lit 112, nat_lit 97, nat_lit 113, nat_lit 117, nat_lit 101] rfl rfl
noncomputable def TS2 : String := PySem.W.S.litE [U116, U117, U112, U108, U101] [nat_lit 116, nat_lit 117, nat_lit 112, nat_lit 108, nat_lit 101] rfl rfl
noncomputable def TS3 : String := PySem.W.S.litE [U99, U111, U100, U101] [nat_lit 99, nat_lit 111, nat_lit 100, nat_lit 101] rfl rfl
noncomputable def TS4 : String := PySem.W.S.litE [U102, U114, U97, U109, U101] [nat_lit 102, nat_lit 114, nat_lit 97, nat_lit 109, nat_lit 101] rfl rfl
noncomputable def TS5 : String := PySem.W.S.litE [U102, U117, U110, U99, U116, U105, U111, U110] [nat_lit 102, nat_lit 117, nat_lit 110, nat_lit 99, nat_lit 116, nat_lit 105, nat_lit 111, nat_lit 110] rfl rfl
noncomputable def TS6 : String := PySem.W.S.litE [U86, U97, U108, U117, U101, U69, U114, U114, U111, U114] [nat_lit 86, nat_lit 97, nat_lit 108, nat_lit 117, nat_lit 101, nat_lit 69, nat_lit 114, nat_lit 114, nat_lit 111, nat_lit 114] rfl rfl
noncomputable def TS7 : String := PySem.W.S.litE [U98, U117, U105, U108, U116, U105, U110, U95, U102, U117, U110, U99, U116, U105, U111, U110, U95, U111, U114, U95, U109, U101, U116, U104, U111, U100] [nat_lit 98, nat_lit 117, nat_lit 105, nat_lit 108, nat_lit 116, nat_lit 105, nat_lit 110, nat_lit 95, nat_lit 102, nat_lit 117, nat_lit 110, nat_lit 99, nat_lit 116, nat_lit 105, nat_lit 111, nat_lit 110, nat_lit 95, nat_lit 111, nat_lit 114, nat_lit 95, nat_lit 109, nat_lit 101, nat_lit 116, nat_lit 104, nat_lit 111, nat_lit 100] rfl rfl
noncomputable def TS8 : String := PySem.W.S.litE [U116, U121, U112, U101, U46, U95, U95, U112, U114, U101, U112, U97, U114, U101, U95, U95] [nat_lit 116, nat_lit 121, nat_lit 112, nat_lit 101, nat_lit 46, nat_lit 95, nat_lit 95, nat_lit 112, nat_lit 114, nat_lit 101, nat_lit 112, nat_lit 97, nat_lit 114, nat_lit 101, nat_lit 95, nat_lit 95] rfl rfl
noncomputable def TS9 : String := PySem.W.S.litE [U116, U121, U112, U101] [nat_lit 116, nat_lit 121, nat_lit 112, nat_lit 101] rfl rfl
noncomputable def TS10 : String := PySem.W.S.litE [U69, U120, U99, U101, U112, U116, U105, U111, U110] [nat_lit 69, nat_lit 120, nat_lit 99, nat_lit 101, nat_lit 112, nat_lit 116, nat_lit 105, nat_lit 111, nat_lit 110] rfl rfl
noncomputable def TS11 : String := PySem.W.S.litE [U66, U97, U115, U101, U69, U120, U99, U101, U112, U116, U105, U111, U110] [nat_lit 66, nat_lit 97, nat_lit 115, nat_lit 101, nat_lit 69, nat_lit 120, nat_lit 99, nat_lit 101, nat_lit 112, nat_lit 116, nat_lit 105, nat_lit 111, nat_lit 110] rfl rfl
noncomputable def TS12 : String := PySem.W.S.litE [U111, U98, U106, U101, U99, U116] [nat_lit 111, nat_lit 98, nat_lit 106, nat_lit 101, nat_lit 99, nat_lit 116] rfl rfl
noncomputable def TS13 : String := PySem.W.S.litE [U86, U97, U108, U117, U101, U69, U114, U114, U111, U114, U46, U95, U95, U110, U101, U119, U95, U95] [nat_lit 86, nat_lit 97, nat_lit 108, nat_lit 117, nat_lit 101, nat_lit 69, nat_lit 114, nat_lit 114, nat_lit 111, nat_lit 114, nat_lit 46, nat_lit 95, nat_lit 95, nat_lit 110, nat_lit 101, nat_lit 119, nat_lit 95, nat_lit 95] rfl rfl
noncomputable def TS14 : String := PySem.W.S.litE [U103, U101, U116, U115, U101, U116, U95, U100, U101, U115, U99, U114, U105, U112, U116, U111, U114] [nat_lit 103, nat_lit 101, nat_lit 116, nat_lit 115, nat_lit 101, nat_lit 116, nat_lit 95, nat_lit 100, nat_lit 101, nat_lit 115, nat_lit 99, nat_lit 114, nat_lit 105, nat_lit 112, nat_lit 116, nat_lit 111, nat_lit 114] rfl rfl
noncomputable def TS15 : String := PySem.W.S.litE [U69, U120, U99, U101, U112, U116, U105, U111, U110, U71, U114, U111, U117, U112, U46, U95, U95, U119, U101, U97, U107, U114, U101, U102, U95, U95] [nat_lit 69, nat_lit 120, nat_lit 99, nat_lit 101, nat_lit 112, nat_lit 116, nat_lit 105, nat_lit 111, nat_lit 110, nat_lit 71, nat_lit 114, nat_lit 111, nat_lit 117, nat_lit 112, nat_lit 46, nat_lit 95, nat_lit 95, nat_lit 119, nat_lit 101, nat_lit 97, nat_lit 107, nat_lit 114, nat_lit 101, nat_lit 102, nat_lit 95, nat_lit 95] rfl rfl
noncomputable def TS16 : String := PySem.W.S.litE [U115, U117, U112, U101, U114] [nat_lit 115, nat_lit 117, nat_lit 112, nat_lit 101, nat_lit 114] rfl rfl
noncomputable def TS17 : String := PySem.W.S.litE [U111, U98, U106, U101, U99, U116, U46, U95, U95, U105, U110, U105, U116, U95, U115, U117, U98, U99, U108, U97, U115, U115, U95, U95] [nat_lit 111, nat_lit 98, nat_lit 106, nat_lit 101, nat_lit 99, nat_lit 116, nat_lit 46, nat_lit 95, nat_lit 95, nat_lit 105, nat_lit 110, nat_lit 105, nat_lit 116, nat_lit 95, nat_lit 115, nat_lit 117, nat_lit 98, nat_lit 99, nat_lit 108, nat_lit 97, nat_lit 115, nat_lit 115, nat_lit 95, nat_lit 95] rfl rfl
noncomputable def TS18 : String := PySem.W.S.litE [U111, U98, U106, U101, U99, U116, U46, U95, U95, U110, U101, U119, U95, U95] [nat_lit 111, nat_lit 98, nat_lit 106, nat_lit 101, nat_lit 99, nat_lit 116, nat_lit 46, nat_lit 95, nat_lit 95, nat_lit 110, nat_lit 101, nat_lit 119, nat_lit 95, nat_lit 95] rfl rfl
noncomputable def TS19 : String := PySem.W.S.litE [U102, U117, U110, U99, U116, U105, U111, U110, U46, U95, U95, U100, U105, U99, U116, U95, U95] [nat_lit 102, nat_lit 117, nat_lit 110, nat_lit 99, nat_lit 116, nat_lit 105, nat_lit 111, nat_lit 110, nat_lit 46, nat_lit 95, nat_lit 95, nat_lit 100, nat_lit 105, nat_lit 99, nat_lit 116, nat_lit 95, nat_lit 95] rfl rfl
noncomputable def TS20 : String := PySem.W.S.litE [U102, U117, U110, U99, U116, U105, U111, U110, U46, U95, U95, U100, U105, U99, U116, U95, U95, U35, U115, U101, U116] [nat_lit 102, nat_lit 117, nat_lit 110, nat_lit 99, nat_lit 116, nat_lit 105, nat_lit 111, nat_lit 110, nat_lit 46, nat_lit 95, nat_lit 95, nat_lit 100, nat_lit 105, nat_lit 99, nat_lit 116, nat_lit 95, nat_lit 95, nat_lit 35, nat_lit 115, nat_lit 101, nat_lit 116] rfl rfl
noncomputable def TS21 : String := PySem.W.S.litE [U108, U105, U115, U116] [nat_lit 108, nat_lit 105, nat_lit 115, nat_lit 116] rfl rfl
noncomputable def TS22 : String := PySem.W.S.litE [U108, U105, U115, U116, U95, U105, U116, U101, U114, U97, U116, U111, U114] [nat_lit 108, nat_lit 105, nat_lit 115, nat_lit 116, nat_lit 95, nat_lit 105, nat_lit 116, nat_lit 101, nat_lit 114, nat_lit 97, nat_lit 116, nat_lit 111, nat_lit 114] rfl rfl
noncomputable def TS23 : String := PySem.W.S.litE [U101, U110, U117, U109, U101, U114, U97, U116, U101] [nat_lit 101, nat_lit 110, nat_lit 117, nat_lit 109, nat_lit 101, nat_lit 114, nat_lit 97, nat_lit 116, nat_lit 101] rfl rfl
noncomputable def TS24 : String := PySem.W.S.litE [U116, U117, U112, U108, U101, U95, U105, U116, U101, U114, U97, U116, U111, U114] [nat_lit 116, nat_lit 117, nat_lit 112, nat_lit 108, nat_lit 101, nat_lit 95, nat_lit 105, nat_lit 116, nat_lit 101, nat_lit 114, nat_lit 97, nat_lit 116, nat_lit 111, nat_lit 114] rfl rfl
noncomputable def TS25 : String := PySem.W.S.litE [U83, U116, U111, U112, U73, U116, U101, U114, U97, U116, U105, U111, U110] [nat_lit 83, nat_lit 116, nat_lit 111, nat_lit 112, nat_lit 73, nat_lit 116, nat_lit 101, nat_lit 114, nat_lit 97, nat_lit 116, nat_lit 105, nat_lit 111, nat_lit 110] rfl rfl
theorem zz : Str.ofString "" = SS39 ∧ Str.ofString " " = SS195 ∧ Str.ofString "-" = SS79 ∧ Str.ofString "- - - - - csrrwi csrrsi csrrci" = SS137 ∧ Str.ofString "- - - - - srai" = SS105 ∧ Str.ofString "- csrrw csrrs csrrc" = SS132 ∧ Str.ofString "- csrrw csrrs csrrc - csrrwi csrrsi csrrci" = SS196 ∧ Str.ofString "- slli - - - srli" = SS101 ∧ Str.ofString ".0" = SS197 ∧ Str.ofString "/claim/cut.py" = SS9 ∧ Str.ofString "08x" = SS198 ∧ Str.ofString "AUIPC" = SS18 ∧ Str.ofString "B" = SS75 ∧ Str.ofString "BRANCH" = SS22 ∧ Str.ofString "BY_NAME" = SS151 ∧ Str.ofString "BY_OPCODE" = SS152 ∧ Str.ofString "BY_SEVENTH" = SS155 ∧ Str.ofString "BY_THIRD" = SS154 ∧ Str.ofString "BadArgument" = SS13 ∧ Str.ofString "BadInstruction" = SS14 ∧ Str.ofString "BoardError" = SS12 ∧ Str.ofString "CSR" = SS133 ∧ Str.ofString "CSRI" = SS138 ∧ Str.ofString "FENCES" = SS16 ∧ Str.ofString "I" = SS73 ∧ Str.ofString "IMMEDIATE" = SS17 ∧ Str.ofString "Instruction" = SS26 ∧ Str.ofString "J" = SS71 ∧ Str.ofString "JAL" = SS24 ∧ Str.ofString "JALR" = SS23 ∧ Str.ofString "Known" = SS66 ∧ Str.ofString "LOAD" = SS15 ∧ Str.ofString "LUI" = SS21 ∧ Str.ofString "R" = SS108 ∧ Str.ofString "RANGES" = SS158 ∧ Str.ofString "REGISTER" = SS20 ∧ Str.ofString "S" = SS90 ∧ Str.ofString "SHAPES" = SS142 ∧ Str.ofString "STORE" = SS19 ∧ Str.ofString "SYSTEM" = SS25 ∧ Str.ofString "Shape" = SS27 ∧ Str.ofString "U" = SS68 ∧ Str.ofString "USED" = SS157 ∧ Str.ofString "ValueError" = SS199 ∧ Str.ofString "WHOLE" = SS176 ∧ Str.ofString "__init__" = SS37 ∧ Str.ofString "__name__" = SS0 ∧ Str.ofString "_law_by_high" = SS171 ∧ Str.ofString "_law_many" = SS174 ∧ Str.ofString "_law_name_of" = SS172 ∧ Str.ofString "_law_rows" = SS170 ∧ Str.ofString "_law_take" = SS168 ∧ Str.ofString "_law_thirds" = SS169 ∧ Str.ofString "_law_word_right" = SS173 ∧ Str.ofString "_wall" = SS11 ∧ Str.ofString "a field that is no whole number" = SS200 ∧ Str.ofString "a field that the format does not have" = SS201 ∧ Str.ofString "a number out of its range" = SS202 ∧ Str.ofString "a register or a CSR that there is not" = SS203 ∧ Str.ofString "abs" = SS204 ∧ Str.ofString "add" = SS110 ∧ Str.ofString "add sll slt sltu xor srl or and" = SS107 ∧ Str.ofString "addi - slti sltiu xori - ori andi" = SS94 ∧ Str.ofString "alone" = SS190 ∧ Str.ofString "and" = SS109 ∧ Str.ofString "append" = SS205 ∧ Str.ofString "at" = SS187 ∧ Str.ofString "auipc" = SS69 ∧ Str.ofString "beq bne - - blt bge bltu bgeu" = SS74 ∧ Str.ofString "bool" = SS206 ∧ Str.ofString "by_high" = SS194 ∧ Str.ofString "cell" = SS207 ∧ Str.ofString "check" = SS160 ∧ Str.ofString "csr" = SS52 ∧ Str.ofString "decode" = SS167 ∧ Str.ofString "dict" = SS208 ∧ Str.ofString "div" = SS126 ∧ Str.ofString "divu" = SS127 ∧ Str.ofString "due" = SS192 ∧ Str.ofString "ebreak" = SS147 ∧ Str.ofString "ecall" = SS146 ∧ Str.ofString "encode" = SS163 ∧ Str.ofString "enumerate" = SS209 ∧ Str.ofString "every" = SS210 ∧ Str.ofString "extend" = SS211 ∧ Str.ofString "fast" = SS212 ∧ Str.ofString "fence" = SS130 ∧ Str.ofString "fence fence.i" = SS129 ∧ Str.ofString "fence fence.i - - - - - -" = SS213 ∧ Str.ofString "fields" = SS46 ∧ Str.ofString "find_shape" = SS166 ∧ Str.ofString "fixed" = SS56 ∧ Str.ofString "flush" = SS145 ∧ Str.ofString "found" = SS64 ∧ Str.ofString "gathered_branch" = SS164 ∧ Str.ofString "gathered_jump" = SS165 ∧ Str.ofString "get" = SS214 ∧ Str.ofString "greatest" = SS181 ∧ Str.ofString "high" = SS184 ∧ Str.ofString "imm" = SS51 ∧ Str.ofString "instruction" = SS177 ∧ Str.ofString "int" = SS215 ∧ Str.ofString "isinstance" = SS216 ∧ Str.ofString "items" = SS217 ∧ Str.ofString "jal" = SS70 ∧ Str.ofString "jalr" = SS72 ∧ Str.ofString "jalr - - - - - - -" = SS218 ∧ Str.ofString "k" = SS32 ∧ Str.ofString "kind" = SS57 ∧ Str.ofString "law" = SS175 ∧ Str.ofString "law_pf0216_01" = SS156 ∧ Str.ofString "lb lh lw - lbu lhu" = SS83 ∧ Str.ofString "lb lh lw - lbu lhu - -" = SS219 ∧ Str.ofString "least" = SS180 ∧ Str.ofString "len" = SS220 ∧ Str.ofString "low" = SS183 ∧ Str.ofString "lui" = SS67 ∧ Str.ofString "many" = SS186 ∧ Str.ofString "met" = SS191 ∧ Str.ofString "mret" = SS143 ∧ Str.ofString "mul" = SS122 ∧ Str.ofString "mul mulh mulhsu mulhu div divu rem remu" = SS120 ∧ Str.ofString "mulh" = SS123 ∧ Str.ofString "mulhsu" = SS124 ∧ Str.ofString "mulhu" = SS125 ∧ Str.ofString "name" = SS47 ∧ Str.ofString "names" = SS63 ∧ Str.ofString "no instruction of such a name" = SS221 ∧ Str.ofString "no instruction: " = SS222 ∧ Str.ofString "number" = SS65 ∧ Str.ofString "numbered" = SS28 ∧ Str.ofString "numbers" = SS179 ∧ Str.ofString "one" = SS223 ∧ Str.ofString "opcode" = SS58 ∧ Str.ofString "or" = SS116 ∧ Str.ofString "other" = SS224 ∧ Str.ofString "pipeboard.errors" = SS34 ∧ Str.ofString "pipeboard.isa" = SS1 ∧ Str.ofString "range" = SS225 ∧ Str.ofString "rd" = SS48 ∧ Str.ofString "reason" = SS41 ∧ Str.ofString "rem" = SS128 ∧ Str.ofString "remu" = SS121 ∧ Str.ofString "rest" = SS226 ∧ Str.ofString "rows" = SS189 ∧ Str.ofString "rs1" = SS49 ∧ Str.ofString "rs2" = SS50 ∧ Str.ofString "sb sh sw" = SS89 ∧ Str.ofString "sb sh sw - - - - -" = SS227 ∧ Str.ofString "script" = SS228 ∧ Str.ofString "self" = SS40 ∧ Str.ofString "seventh" = SS60 ∧ Str.ofString "sfence.vma" = SS144 ∧ Str.ofString "shape" = SS153 ∧ Str.ofString "shape_of" = SS159 ∧ Str.ofString "shapes" = SS29 ∧ Str.ofString "shift" = SS102 ∧ Str.ofString "sll" = SS111 ∧ Str.ofString "slli" = SS104 ∧ Str.ofString "slt" = SS112 ∧ Str.ofString "sltu" = SS113 ∧ Str.ofString "small" = SS229 ∧ Str.ofString "split" = SS230 ∧ Str.ofString "spread_branch" = SS161 ∧ Str.ofString "spread_jump" = SS162 ∧ Str.ofString "sra" = SS118 ∧ Str.ofString "srai" = SS106 ∧ Str.ofString "sret" = SS148 ∧ Str.ofString "srl" = SS115 ∧ Str.ofString "srli" = SS103 ∧ Str.ofString "step" = SS182 ∧ Str.ofString "sub" = SS119 ∧ Str.ofString "sub - - - - sra" = SS117 ∧ Str.ofString "sum" = SS231 ∧ Str.ofString "system" = SS150 ∧ Str.ofString "tape" = SS185 ∧ Str.ofString "text" = SS232 ∧ Str.ofString "third" = SS59 ∧ Str.ofString "thirds" = SS233 ∧ Str.ofString "told" = SS193 ∧ Str.ofString "update" = SS234 ∧ Str.ofString "used" = SS178 ∧ Str.ofString "wfi" = SS149 ∧ Str.ofString "whole" = SS188 ∧ Str.ofString "word" = SS44 ∧ Str.ofString "xor" = SS114 := by refine ⟨?_, ?_, ?_, ?_, ?_, ?_, ?_, ?_, ?_, ?_, ?_, ?_, ?_, ?_, ?_, ?_, ?_, ?_, ?_, ?_, ?_, ?_, ?_, ?_, ?_, ?_, ?_, ?_, ?_, ?_, ?_, ?_, ?_, ?_, ?_, ?_, ?_, ?_, ?_, ?_, ?_, ?_, ?_, ?_, ?_, ?_, ?_, ?_, ?_, ?_, ?_, ?_, ?_, ?_, ?_, ?_, ?_, ?_, ?_, ?_, ?_, ?_, ?_, ?_, ?_, ?_, ?_, ?_, ?_, ?_, ?_, ?_, ?_, ?_, ?_, ?_, ?_, ?_, ?_, ?_, ?_, ?_, ?_, ?_, ?_, ?_, ?_, ?_, ?_, ?_, ?_, ?_, ?_, ?_, ?_, ?_, ?_, ?_, ?_, ?_, ?_, ?_, ?_, ?_, ?_, ?_, ?_, ?_, ?_, ?_, ?_, ?_, ?_, ?_, ?_, ?_, ?_, ?_, ?_, ?_, ?_, ?_, ?_, ?_, ?_, ?_, ?_, ?_, ?_, ?_, ?_, ?_, ?_, ?_, ?_, ?_, ?_, ?_, ?_, ?_, ?_, ?_, ?_, ?_, ?_, ?_, ?_, ?_, ?_, ?_, ?_, ?_, ?_, ?_, ?_, ?_, ?_, ?_, ?_, ?_, ?_, ?_, ?_, ?_, ?_, ?_, ?_, ?_, ?_, ?_, ?_, ?_, ?_, ?_, ?_, ?_, ?_, ?_, ?_, ?_, ?_, ?_, ?_, ?_, ?_, ?_⟩ <;> kernel_rfl
noncomputable def pwF : Program := by
  refine' (?f : (a : Program) → pw = a → Program) ?_ ?h
  case f => exact fun a _ => a
  case h => conv => lhs; delta pw PySem.Challenge.pw_pf0216_01; simp -implicitDefEqProofs only [zz]
theorem pwF_eq : pwF = pw := by kernel_rfl
noncomputable def rwF : OpenLaw := { prog := pwF, name := SS175, about := [SS167], foot := 8, most := some 63, bound := none, writes := false }
theorem rwF_eq : rwF = PySem.Challenge.rw_pf0216_01 := by kernel_rfl
noncomputable def fnF (i : Nat) : Arguments × List Stmt × Scope := match pwF.main.body[i]? with
  | some (.FunctionDef _ ps body _ _ _ sc _ _ _) => (ps, body, sc)
  | _ => default
noncomputable def methF (i j : Nat) : Arguments × List Stmt × Scope := match pwF.main.body[i]? with
  | some (.ClassDef _ _ _ body _ _ _ _ _ _ _) => (match body[j]? with
    | some (.FunctionDef _ ps body _ _ _ sc _ _ _) => (ps, body, sc)
    | _ => default)
  | _ => default
noncomputable def gf (n : Nat) : Obj := ⟨.type TS25, none, .fields #[.ref n, .none, .none, .none, .bool false, .none], #[]⟩
def o3 (P : Params) : Obj := ⟨.type TS0, none, .dict #[⟨PyData.keyHash P SS0, .str SS0 165, .str SS1 265⟩, ⟨PyData.keyHash P SS2, .str SS2 166, .none⟩, ⟨PyData.keyHash P SS3, .str SS3 167, .none⟩, ⟨PyData.keyHash P SS4, .str SS4 168, .builtin TS1⟩, ⟨PyData.keyHash P SS5, .str SS5 169, .none⟩, ⟨PyData.keyHash P SS6, .str SS6 170, .ref 6⟩, ⟨PyData.keyHash P SS7, .str SS7 171, .ref 4⟩, ⟨PyData.keyHash P SS8, .str SS8 173, .str SS9 172⟩, ⟨PyData.keyHash P SS10, .str SS10 174, .none⟩, ⟨PyData.keyHash P SS11, .str SS11 193, .ref 21⟩, ⟨PyData.keyHash P SS12, .str SS12 223, .ref 39⟩, ⟨PyData.keyHash P SS13, .str SS13 239, .ref 52⟩, ⟨PyData.keyHash P SS14, .str SS14 264, .ref 71⟩, ⟨PyData.keyHash P SS15, .str SS15 268, .int 3 267⟩, ⟨PyData.keyHash P SS16, .str SS16 270, .int 15 269⟩, ⟨PyData.keyHash P SS17, .str SS17 272, .int 19 271⟩, ⟨PyData.keyHash P SS18, .str SS18 274, .int 23 273⟩, ⟨PyData.keyHash P SS19, .str SS19 276, .int 35 275⟩, ⟨PyData.keyHash P SS20, .str SS20 278, .int 51 277⟩, ⟨PyData.keyHash P SS21, .str SS21 280, .int 55 279⟩, ⟨PyData.keyHash P SS22, .str SS22 282, .int 99 281⟩, ⟨PyData.keyHash P SS23, .str SS23 284, .int 103 283⟩, ⟨PyData.keyHash P SS24, .str SS24 286, .int 111 285⟩, ⟨PyData.keyHash P SS25, .str SS25 288, .int 115 287⟩, ⟨PyData.keyHash P SS26, .str SS26 339, .ref 98⟩, ⟨PyData.keyHash P SS27, .str SS27 385, .ref 127⟩, ⟨PyData.keyHash P SS28, .str SS28 399, .ref 139⟩, ⟨PyData.keyHash P SS29, .str SS29 408, .ref 146⟩] 28, #[]⟩
def o11 : Obj := ⟨.type TS2, none, .seq #[] 0, #[]⟩
noncomputable def o12 : Obj := ⟨.none, none, .fields #[.int 1 0, .int 0 0, .ref 20, .int 5 0, .int 0 0, .ref 27, .int 10 0, .int 0 0, .ref 48, .int 12 0, .int 0 0, .ref 60, .int 29 0, .int 0 0, .ref 79, .int 41 0, .int 0 0, .ref 108, .int 52 0, .int 0 0, .ref 138, .int 58 0, .int 0 0, .ref 145], #[]⟩
def o13 : Obj := ⟨.type TS3, none, .fields #[.str SS30 182, .str SS30 183, .str SS9 184, .int 1 0, .int 0 0, .int 0 0, .int 0 0, .int 0 0, .ref 11, .bool false, .int 181 0, .ref 12, .none, .none, .none, .none, .int 185 0, .int 1 0, .str SS9 186], #[]⟩
def o14 : Obj := ⟨.type TS4, none, .plain, #[some (.ref 13), some (.ref 3), some (.ref 3), none, some (.str SS31 164), none, some (.ref 0)]⟩
noncomputable def o16 : Obj := ⟨.none, none, .fields #[], #[]⟩
def o17 : Obj := ⟨.type TS2, none, .seq #[.str SS32 190] 0, #[]⟩
def o19 (P : Params) : Obj := ⟨.none, none, .func ⟨SS11, SS11, (fnF 0).1, .stmts (fnF 0).2.1, (fnF 0).2.2, 0, [], .none, .none, .none, .none, none, .none, .none, 0⟩, #[]⟩
def o20 : Obj := ⟨.type TS3, none, .fields #[.str SS11 187, .str SS11 188, .str SS9 189, .int 1 0, .int 1 0, .int 0 0, .int 0 0, .int 3 0, .ref 15, .bool true, .int 181 0, .ref 16, .none, .ref 17, .ref 18, .ref 19, .int 191 0, .int 1 0, .str SS9 192], #[]⟩
noncomputable def psF0 : Arguments := by
  refine' (?f : (a : Arguments) → (fnAt 0).1 = a → Arguments) ?_ ?h
  case f => exact fun a _ => a
  case h => conv => lhs; whnf
noncomputable def bdF0 : List Stmt := by
  refine' (?f : (a : List Stmt) → (fnAt 0).2.1 = a → List Stmt) ?_ ?h
  case f => exact fun a _ => a
  case h => conv => lhs; whnf
noncomputable def scF0 : Scope := by
  refine' (?f : (a : Scope) → (fnAt 0).2.2 = a → Scope) ?_ ?h
  case f => exact fun a _ => a
  case h => conv => lhs; whnf
noncomputable def o21 : Params → Obj := by
  refine' (?f : (a : Params → Obj) → (fun P => (⟨.type TS5, none, .func ⟨SS11, SS11, psF0, .stmts bdF0, scF0, 3, [], .none, .none, .none, .str SS31 164, none, .ref 20, .none, 0⟩, #[]⟩ : Obj)) = a → Params → Obj) ?_ ?h
  case f => exact fun a _ => a
  case h => conv => lhs; delta psF0 bdF0 scF0; simp -implicitDefEqProofs only [zz]
def o22 : Obj := ⟨.type TS2, none, .seq #[.type TS6] 0, #[]⟩
def o23 : Obj := ⟨.type TS7, none, .fields #[.builtin TS8, .type TS9], #[]⟩
def o24 (P : Params) : Obj := ⟨.type TS0, none, .dict #[⟨PyData.keyHash P SS33, .str SS33 203, .str SS34 194⟩, ⟨PyData.keyHash P SS35, .str SS35 205, .str SS12 204⟩, ⟨PyData.keyHash P SS36, .str SS36 207, .int 5 206⟩, ⟨PyData.keyHash P SS37, .str SS37 216, .ref 36⟩, ⟨PyData.keyHash P SS38, .str SS38 218, .ref 37⟩] 5, #[]⟩
noncomputable def o26 : Obj := ⟨.none, none, .fields #[.int 7 0, .int 4 0, .ref 35], #[]⟩
def o27 : Obj := ⟨.type TS3, none, .fields #[.str SS12 198, .str SS12 199, .str SS9 200, .int 5 0, .int 0 0, .int 0 0, .int 0 0, .int 0 0, .ref 25, .bool false, .int 181 0, .ref 26, .none, .none, .none, .none, .int 201 0, .int 5 0, .str SS9 202], #[]⟩
def o28 : Obj := ⟨.type TS4, none, .plain, #[some (.ref 27), some (.ref 3), some (.ref 24), none, some (.str SS34 194), none, some (.ref 0)]⟩
def o29 : Obj := ⟨.type TS2, none, .seq #[.str SS39 208] 0, #[]⟩
def o32 : Obj := ⟨.type TS2, none, .seq #[.str SS40 212, .str SS41 213] 0, #[]⟩
def o34 (P : Params) : Obj := ⟨.none, none, .func ⟨SS37, SS42, (methF 2 0).1, .stmts (methF 2 0).2.1, (methF 2 0).2.2, 0, [], .none, .none, .none, .none, none, .none, .none, 0⟩, #[]⟩
def o35 : Obj := ⟨.type TS3, none, .fields #[.str SS37 209, .str SS42 210, .str SS9 211, .int 7 0, .int 2 0, .int 0 0, .int 0 0, .int 3 0, .ref 30, .bool true, .int 181 0, .ref 31, .none, .ref 32, .ref 33, .ref 34, .int 214 0, .int 7 0, .str SS9 215], #[]⟩
noncomputable def psM2M0 : Arguments := by
  refine' (?f : (a : Arguments) → (methAt 2 0).1 = a → Arguments) ?_ ?h
  case f => exact fun a _ => a
  case h => conv => lhs; whnf
noncomputable def bdM2M0 : List Stmt := by
  refine' (?f : (a : List Stmt) → (methAt 2 0).2.1 = a → List Stmt) ?_ ?h
  case f => exact fun a _ => a
  case h => conv => lhs; whnf
noncomputable def scM2M0 : Scope := by
  refine' (?f : (a : Scope) → (methAt 2 0).2.2 = a → Scope) ?_ ?h
  case f => exact fun a _ => a
  case h => conv => lhs; whnf
noncomputable def o36 : Params → Obj := by
  refine' (?f : (a : Params → Obj) → (fun P => (⟨.type TS5, none, .func ⟨SS37, SS42, psM2M0, .stmts bdM2M0, scM2M0, 3, [], .ref 29, .none, .none, .str SS34 194, none, .ref 35, .none, 0⟩, #[]⟩ : Obj)) = a → Params → Obj) ?_ ?h
  case f => exact fun a _ => a
  case h => conv => lhs; delta psM2M0 bdM2M0 scM2M0; simp -implicitDefEqProofs only [zz]
def o37 : Obj := ⟨.type TS2, none, .seq #[.str SS41 217] 0, #[]⟩
def o38 (P : Params) : Obj := ⟨.type TS0, none, .dict #[⟨PyData.keyHash P SS33, .str SS33 203, .str SS34 194⟩, ⟨PyData.keyHash P SS36, .str SS36 207, .int 5 206⟩, ⟨PyData.keyHash P SS37, .str SS37 216, .ref 36⟩, ⟨PyData.keyHash P SS38, .str SS38 218, .ref 37⟩, ⟨PyData.keyHash P SS43, .str SS43 220, .ref 40⟩, ⟨PyData.keyHash P SS2, .str SS2 221, .none⟩] 3, #[]⟩
def o39 : Obj := ⟨.type TS9, none, .cls ⟨SS12, [.type TS6], [.ref 39, .type TS6, .type TS10, .type TS11, .type TS12], 38, SS12, true, [], [.ref 52, .ref 71], false, none, false⟩, #[some (.ref 22), none, some (.str SS12 196), some (.str SS12 204), some (.builtin TS13), some (.bool true)]⟩
def o40 : Obj := ⟨.type TS14, none, .fields #[.str SS43 219, .ref 39, .builtin TS15, .none], #[]⟩
def o41 : Obj := ⟨.type TS16, none, .fields #[.ref 39, .ref 39, .ref 39], #[]⟩
def o42 : Obj := ⟨.type TS7, none, .fields #[.builtin TS17, .ref 39], #[]⟩
def o43 : Obj := ⟨.type TS2, none, .seq #[.ref 39] 0, #[]⟩
def o45 (P : Params) : Obj := ⟨.type TS0, none, .dict #[⟨PyData.keyHash P SS33, .str SS33 231, .str SS34 194⟩, ⟨PyData.keyHash P SS35, .str SS35 233, .str SS13 232⟩, ⟨PyData.keyHash P SS36, .str SS36 235, .int 10 234⟩, ⟨PyData.keyHash P SS38, .str SS38 236, .ref 50⟩] 4, #[]⟩
def o48 : Obj := ⟨.type TS3, none, .fields #[.str SS13 226, .str SS13 227, .str SS9 228, .int 10 0, .int 0 0, .int 0 0, .int 0 0, .int 0 0, .ref 46, .bool false, .int 181 0, .ref 47, .none, .none, .none, .none, .int 229 0, .int 10 0, .str SS9 230], #[]⟩
def o49 : Obj := ⟨.type TS4, none, .plain, #[some (.ref 48), some (.ref 3), some (.ref 45), none, some (.str SS34 194), none, some (.ref 0)]⟩
def o51 (P : Params) : Obj := ⟨.type TS0, none, .dict #[⟨PyData.keyHash P SS33, .str SS33 231, .str SS34 194⟩, ⟨PyData.keyHash P SS36, .str SS36 235, .int 10 234⟩, ⟨PyData.keyHash P SS38, .str SS38 236, .ref 50⟩, ⟨PyData.keyHash P SS2, .str SS2 237, .none⟩] 2, #[]⟩
def o52 : Obj := ⟨.type TS9, none, .cls ⟨SS13, [.ref 39], [.ref 52, .ref 39, .type TS6, .type TS10, .type TS11, .type TS12], 51, SS13, true, [], [], false, none, false⟩, #[some (.ref 43), none, some (.str SS13 224), some (.str SS13 232), some (.builtin TS13), some (.bool true)]⟩
def o53 : Obj := ⟨.type TS16, none, .fields #[.ref 52, .ref 52, .ref 52], #[]⟩
def o54 : Obj := ⟨.type TS7, none, .fields #[.builtin TS17, .ref 52], #[]⟩
def o57 (P : Params) : Obj := ⟨.type TS0, none, .dict #[⟨PyData.keyHash P SS33, .str SS33 247, .str SS34 194⟩, ⟨PyData.keyHash P SS35, .str SS35 249, .str SS14 248⟩, ⟨PyData.keyHash P SS36, .str SS36 251, .int 12 250⟩, ⟨PyData.keyHash P SS37, .str SS37 259, .ref 68⟩, ⟨PyData.keyHash P SS38, .str SS38 261, .ref 69⟩] 5, #[]⟩
noncomputable def o59 : Obj := ⟨.none, none, .fields #[.int 14 0, .int 4 0, .ref 67], #[]⟩
def o60 : Obj := ⟨.type TS3, none, .fields #[.str SS14 242, .str SS14 243, .str SS9 244, .int 12 0, .int 0 0, .int 0 0, .int 0 0, .int 0 0, .ref 58, .bool false, .int 181 0, .ref 59, .none, .none, .none, .none, .int 245 0, .int 12 0, .str SS9 246], #[]⟩
def o61 : Obj := ⟨.type TS4, none, .plain, #[some (.ref 60), some (.ref 3), some (.ref 57), none, some (.str SS34 194), none, some (.ref 0)]⟩
def o64 : Obj := ⟨.type TS2, none, .seq #[.str SS40 255, .str SS44 256] 0, #[]⟩
def o66 (P : Params) : Obj := ⟨.none, none, .func ⟨SS37, SS45, (methF 4 0).1, .stmts (methF 4 0).2.1, (methF 4 0).2.2, 0, [], .none, .none, .none, .none, none, .none, .none, 0⟩, #[]⟩
def o67 : Obj := ⟨.type TS3, none, .fields #[.str SS37 252, .str SS45 253, .str SS9 254, .int 14 0, .int 2 0, .int 0 0, .int 0 0, .int 3 0, .ref 62, .bool true, .int 181 0, .ref 63, .none, .ref 64, .ref 65, .ref 66, .int 257 0, .int 14 0, .str SS9 258], #[]⟩
noncomputable def psM4M0 : Arguments := by
  refine' (?f : (a : Arguments) → (methAt 4 0).1 = a → Arguments) ?_ ?h
  case f => exact fun a _ => a
  case h => conv => lhs; whnf
noncomputable def bdM4M0 : List Stmt := by
  refine' (?f : (a : List Stmt) → (methAt 4 0).2.1 = a → List Stmt) ?_ ?h
  case f => exact fun a _ => a
  case h => conv => lhs; whnf
noncomputable def scM4M0 : Scope := by
  refine' (?f : (a : Scope) → (methAt 4 0).2.2 = a → Scope) ?_ ?h
  case f => exact fun a _ => a
  case h => conv => lhs; whnf
noncomputable def o68 : Params → Obj := by
  refine' (?f : (a : Params → Obj) → (fun P => (⟨.type TS5, none, .func ⟨SS37, SS45, psM4M0, .stmts bdM4M0, scM4M0, 3, [], .none, .none, .none, .str SS34 194, none, .ref 67, .none, 0⟩, #[]⟩ : Obj)) = a → Params → Obj) ?_ ?h
  case f => exact fun a _ => a
  case h => conv => lhs; delta psM4M0 bdM4M0 scM4M0; simp -implicitDefEqProofs only [zz]
def o69 : Obj := ⟨.type TS2, none, .seq #[.str SS44 260] 0, #[]⟩
def o70 (P : Params) : Obj := ⟨.type TS0, none, .dict #[⟨PyData.keyHash P SS33, .str SS33 247, .str SS34 194⟩, ⟨PyData.keyHash P SS36, .str SS36 251, .int 12 250⟩, ⟨PyData.keyHash P SS37, .str SS37 259, .ref 68⟩, ⟨PyData.keyHash P SS38, .str SS38 261, .ref 69⟩, ⟨PyData.keyHash P SS2, .str SS2 262, .none⟩] 2, #[]⟩
def o71 : Obj := ⟨.type TS9, none, .cls ⟨SS14, [.ref 39], [.ref 71, .ref 39, .type TS6, .type TS10, .type TS11, .type TS12], 70, SS14, true, [], [], false, none, false⟩, #[some (.ref 55), none, some (.str SS14 240), some (.str SS14 248), some (.builtin TS13), some (.bool true)]⟩
def o72 : Obj := ⟨.type TS16, none, .fields #[.ref 71, .ref 71, .ref 71], #[]⟩
def o73 : Obj := ⟨.type TS7, none, .fields #[.builtin TS17, .ref 71], #[]⟩
def o76 (P : Params) : Obj := ⟨.type TS0, none, .dict #[⟨PyData.keyHash P SS33, .str SS33 296, .str SS1 265⟩, ⟨PyData.keyHash P SS35, .str SS35 298, .str SS26 297⟩, ⟨PyData.keyHash P SS36, .str SS36 300, .int 29 299⟩, ⟨PyData.keyHash P SS37, .str SS37 318, .ref 88⟩, ⟨PyData.keyHash P SS46, .str SS46 325, .ref 95⟩, ⟨PyData.keyHash P SS38, .str SS38 332, .ref 96⟩] 6, #[]⟩
noncomputable def o78 : Obj := ⟨.none, none, .fields #[.int 31 0, .int 4 0, .ref 87, .int 39 0, .int 4 0, .ref 94], #[]⟩
def o79 : Obj := ⟨.type TS3, none, .fields #[.str SS26 291, .str SS26 292, .str SS9 293, .int 29 0, .int 0 0, .int 0 0, .int 0 0, .int 0 0, .ref 77, .bool false, .int 181 0, .ref 78, .none, .none, .none, .none, .int 294 0, .int 29 0, .str SS9 295], #[]⟩
def o80 : Obj := ⟨.type TS4, none, .plain, #[some (.ref 79), some (.ref 3), some (.ref 76), none, some (.str SS1 265), none, some (.ref 0)]⟩
def o81 : Obj := ⟨.type TS2, none, .seq #[.int 0 301, .int 0 302, .int 0 303, .int 0 304, .int 0 305] 0, #[]⟩
def o84 : Obj := ⟨.type TS2, none, .seq #[.str SS40 309, .str SS47 310, .str SS48 311, .str SS49 312, .str SS50 313, .str SS51 314, .str SS52 315] 0, #[]⟩
def o86 (P : Params) : Obj := ⟨.none, none, .func ⟨SS37, SS53, (methF 17 0).1, .stmts (methF 17 0).2.1, (methF 17 0).2.2, 0, [], .none, .none, .none, .none, none, .none, .none, 0⟩, #[]⟩
def o87 : Obj := ⟨.type TS3, none, .fields #[.str SS37 306, .str SS53 307, .str SS9 308, .int 31 0, .int 7 0, .int 0 0, .int 0 0, .int 3 0, .ref 82, .bool true, .int 181 0, .ref 83, .none, .ref 84, .ref 85, .ref 86, .int 316 0, .int 31 0, .str SS9 317], #[]⟩
noncomputable def psM17M0 : Arguments := by
  refine' (?f : (a : Arguments) → (methAt 17 0).1 = a → Arguments) ?_ ?h
  case f => exact fun a _ => a
  case h => conv => lhs; whnf
noncomputable def bdM17M0 : List Stmt := by
  refine' (?f : (a : List Stmt) → (methAt 17 0).2.1 = a → List Stmt) ?_ ?h
  case f => exact fun a _ => a
  case h => conv => lhs; whnf
noncomputable def scM17M0 : Scope := by
  refine' (?f : (a : Scope) → (methAt 17 0).2.2 = a → Scope) ?_ ?h
  case f => exact fun a _ => a
  case h => conv => lhs; whnf
noncomputable def o88 : Params → Obj := by
  refine' (?f : (a : Params → Obj) → (fun P => (⟨.type TS5, none, .func ⟨SS37, SS53, psM17M0, .stmts bdM17M0, scM17M0, 3, [], .ref 81, .none, .none, .str SS1 265, none, .ref 87, .none, 0⟩, #[]⟩ : Obj)) = a → Params → Obj) ?_ ?h
  case f => exact fun a _ => a
  case h => conv => lhs; delta psM17M0 bdM17M0 scM17M0; simp -implicitDefEqProofs only [zz]
def o91 : Obj := ⟨.type TS2, none, .seq #[.str SS40 322] 0, #[]⟩
def o93 (P : Params) : Obj := ⟨.none, none, .func ⟨SS46, SS54, (methF 17 1).1, .stmts (methF 17 1).2.1, (methF 17 1).2.2, 0, [], .none, .none, .none, .none, none, .none, .none, 0⟩, #[]⟩
def o94 : Obj := ⟨.type TS3, none, .fields #[.str SS46 319, .str SS54 320, .str SS9 321, .int 39 0, .int 1 0, .int 0 0, .int 0 0, .int 3 0, .ref 89, .bool true, .int 181 0, .ref 90, .none, .ref 91, .ref 92, .ref 93, .int 323 0, .int 39 0, .str SS9 324], #[]⟩
noncomputable def psM17M1 : Arguments := by
  refine' (?f : (a : Arguments) → (methAt 17 1).1 = a → Arguments) ?_ ?h
  case f => exact fun a _ => a
  case h => conv => lhs; whnf
noncomputable def bdM17M1 : List Stmt := by
  refine' (?f : (a : List Stmt) → (methAt 17 1).2.1 = a → List Stmt) ?_ ?h
  case f => exact fun a _ => a
  case h => conv => lhs; whnf
noncomputable def scM17M1 : Scope := by
  refine' (?f : (a : Scope) → (methAt 17 1).2.2 = a → Scope) ?_ ?h
  case f => exact fun a _ => a
  case h => conv => lhs; whnf
noncomputable def o95 : Params → Obj := by
  refine' (?f : (a : Params → Obj) → (fun P => (⟨.type TS5, none, .func ⟨SS46, SS54, psM17M1, .stmts bdM17M1, scM17M1, 3, [], .none, .none, .none, .str SS1 265, none, .ref 94, .none, 0⟩, #[]⟩ : Obj)) = a → Params → Obj) ?_ ?h
  case f => exact fun a _ => a
  case h => conv => lhs; delta psM17M1 bdM17M1 scM17M1; simp -implicitDefEqProofs only [zz]
def o96 : Obj := ⟨.type TS2, none, .seq #[.str SS52 326, .str SS51 327, .str SS47 328, .str SS48 329, .str SS49 330, .str SS50 331] 0, #[]⟩
def o97 (P : Params) : Obj := ⟨.type TS0, none, .dict #[⟨PyData.keyHash P SS33, .str SS33 296, .str SS1 265⟩, ⟨PyData.keyHash P SS36, .str SS36 300, .int 29 299⟩, ⟨PyData.keyHash P SS37, .str SS37 318, .ref 88⟩, ⟨PyData.keyHash P SS46, .str SS46 325, .ref 95⟩, ⟨PyData.keyHash P SS38, .str SS38 332, .ref 96⟩, ⟨PyData.keyHash P SS55, .str SS55 334, .ref 99⟩, ⟨PyData.keyHash P SS43, .str SS43 336, .ref 100⟩, ⟨PyData.keyHash P SS2, .str SS2 337, .none⟩] 4, #[]⟩
def o98 : Obj := ⟨.type TS9, none, .cls ⟨SS26, [.type TS12], [.ref 98, .type TS12], 97, SS26, true, [], [], false, none, false⟩, #[none, none, some (.str SS26 289), some (.str SS26 297), some (.builtin TS18), some (.bool true)]⟩
def o99 : Obj := ⟨.type TS14, none, .fields #[.str SS55 333, .ref 98, .builtin TS19, .builtin TS20], #[]⟩
def o100 : Obj := ⟨.type TS14, none, .fields #[.str SS43 335, .ref 98, .builtin TS15, .none], #[]⟩
def o101 : Obj := ⟨.type TS16, none, .fields #[.ref 98, .ref 98, .ref 98], #[]⟩
def o102 : Obj := ⟨.type TS7, none, .fields #[.builtin TS17, .ref 98], #[]⟩
def o105 (P : Params) : Obj := ⟨.type TS0, none, .dict #[⟨PyData.keyHash P SS33, .str SS33 347, .str SS1 265⟩, ⟨PyData.keyHash P SS35, .str SS35 349, .str SS27 348⟩, ⟨PyData.keyHash P SS36, .str SS36 351, .int 41 350⟩, ⟨PyData.keyHash P SS37, .str SS37 365, .ref 117⟩, ⟨PyData.keyHash P SS56, .str SS56 372, .ref 124⟩, ⟨PyData.keyHash P SS38, .str SS38 378, .ref 125⟩] 6, #[]⟩
noncomputable def o107 : Obj := ⟨.none, none, .fields #[.int 43 0, .int 4 0, .ref 116, .int 50 0, .int 4 0, .ref 123], #[]⟩
def o108 : Obj := ⟨.type TS3, none, .fields #[.str SS27 342, .str SS27 343, .str SS9 344, .int 41 0, .int 0 0, .int 0 0, .int 0 0, .int 0 0, .ref 106, .bool false, .int 181 0, .ref 107, .none, .none, .none, .none, .int 345 0, .int 41 0, .str SS9 346], #[]⟩
def o109 : Obj := ⟨.type TS4, none, .plain, #[some (.ref 108), some (.ref 3), some (.ref 105), none, some (.str SS1 265), none, some (.ref 0)]⟩
def o110 : Obj := ⟨.type TS2, none, .seq #[.int 0 352, .int 0 353] 0, #[]⟩
def o113 : Obj := ⟨.type TS2, none, .seq #[.str SS40 357, .str SS47 358, .str SS57 359, .str SS58 360, .str SS59 361, .str SS60 362] 0, #[]⟩
def o115 (P : Params) : Obj := ⟨.none, none, .func ⟨SS37, SS61, (methF 18 0).1, .stmts (methF 18 0).2.1, (methF 18 0).2.2, 0, [], .none, .none, .none, .none, none, .none, .none, 0⟩, #[]⟩
def o116 : Obj := ⟨.type TS3, none, .fields #[.str SS37 354, .str SS61 355, .str SS9 356, .int 43 0, .int 6 0, .int 0 0, .int 0 0, .int 3 0, .ref 111, .bool true, .int 181 0, .ref 112, .none, .ref 113, .ref 114, .ref 115, .int 363 0, .int 43 0, .str SS9 364], #[]⟩
noncomputable def psM18M0 : Arguments := by
  refine' (?f : (a : Arguments) → (methAt 18 0).1 = a → Arguments) ?_ ?h
  case f => exact fun a _ => a
  case h => conv => lhs; whnf
noncomputable def bdM18M0 : List Stmt := by
  refine' (?f : (a : List Stmt) → (methAt 18 0).2.1 = a → List Stmt) ?_ ?h
  case f => exact fun a _ => a
  case h => conv => lhs; whnf
noncomputable def scM18M0 : Scope := by
  refine' (?f : (a : Scope) → (methAt 18 0).2.2 = a → Scope) ?_ ?h
  case f => exact fun a _ => a
  case h => conv => lhs; whnf
noncomputable def o117 : Params → Obj := by
  refine' (?f : (a : Params → Obj) → (fun P => (⟨.type TS5, none, .func ⟨SS37, SS61, psM18M0, .stmts bdM18M0, scM18M0, 3, [], .ref 110, .none, .none, .str SS1 265, none, .ref 116, .none, 0⟩, #[]⟩ : Obj)) = a → Params → Obj) ?_ ?h
  case f => exact fun a _ => a
  case h => conv => lhs; delta psM18M0 bdM18M0 scM18M0; simp -implicitDefEqProofs only [zz]
def o120 : Obj := ⟨.type TS2, none, .seq #[.str SS40 369] 0, #[]⟩
def o122 (P : Params) : Obj := ⟨.none, none, .func ⟨SS56, SS62, (methF 18 1).1, .stmts (methF 18 1).2.1, (methF 18 1).2.2, 0, [], .none, .none, .none, .none, none, .none, .none, 0⟩, #[]⟩
def o123 : Obj := ⟨.type TS3, none, .fields #[.str SS56 366, .str SS62 367, .str SS9 368, .int 50 0, .int 1 0, .int 0 0, .int 0 0, .int 3 0, .ref 118, .bool true, .int 181 0, .ref 119, .none, .ref 120, .ref 121, .ref 122, .int 370 0, .int 50 0, .str SS9 371], #[]⟩
noncomputable def psM18M1 : Arguments := by
  refine' (?f : (a : Arguments) → (methAt 18 1).1 = a → Arguments) ?_ ?h
  case f => exact fun a _ => a
  case h => conv => lhs; whnf
noncomputable def bdM18M1 : List Stmt := by
  refine' (?f : (a : List Stmt) → (methAt 18 1).2.1 = a → List Stmt) ?_ ?h
  case f => exact fun a _ => a
  case h => conv => lhs; whnf
noncomputable def scM18M1 : Scope := by
  refine' (?f : (a : Scope) → (methAt 18 1).2.2 = a → Scope) ?_ ?h
  case f => exact fun a _ => a
  case h => conv => lhs; whnf
noncomputable def o124 : Params → Obj := by
  refine' (?f : (a : Params → Obj) → (fun P => (⟨.type TS5, none, .func ⟨SS56, SS62, psM18M1, .stmts bdM18M1, scM18M1, 3, [], .none, .none, .none, .str SS1 265, none, .ref 123, .none, 0⟩, #[]⟩ : Obj)) = a → Params → Obj) ?_ ?h
  case f => exact fun a _ => a
  case h => conv => lhs; delta psM18M1 bdM18M1 scM18M1; simp -implicitDefEqProofs only [zz]
def o125 : Obj := ⟨.type TS2, none, .seq #[.str SS57 373, .str SS47 374, .str SS58 375, .str SS60 376, .str SS59 377] 0, #[]⟩
def o126 (P : Params) : Obj := ⟨.type TS0, none, .dict #[⟨PyData.keyHash P SS33, .str SS33 347, .str SS1 265⟩, ⟨PyData.keyHash P SS36, .str SS36 351, .int 41 350⟩, ⟨PyData.keyHash P SS37, .str SS37 365, .ref 117⟩, ⟨PyData.keyHash P SS56, .str SS56 372, .ref 124⟩, ⟨PyData.keyHash P SS38, .str SS38 378, .ref 125⟩, ⟨PyData.keyHash P SS55, .str SS55 380, .ref 128⟩, ⟨PyData.keyHash P SS43, .str SS43 382, .ref 129⟩, ⟨PyData.keyHash P SS2, .str SS2 383, .none⟩] 4, #[]⟩
def o127 : Obj := ⟨.type TS9, none, .cls ⟨SS27, [.type TS12], [.ref 127, .type TS12], 126, SS27, true, [], [], false, none, false⟩, #[none, none, some (.str SS27 340), some (.str SS27 348), some (.builtin TS18), some (.bool true)]⟩
def o128 : Obj := ⟨.type TS14, none, .fields #[.str SS55 379, .ref 127, .builtin TS19, .builtin TS20], #[]⟩
def o129 : Obj := ⟨.type TS14, none, .fields #[.str SS43 381, .ref 127, .builtin TS15, .none], #[]⟩
def o130 : Obj := ⟨.type TS16, none, .fields #[.ref 127, .ref 127, .ref 127], #[]⟩
def o131 : Obj := ⟨.type TS7, none, .fields #[.builtin TS17, .ref 127], #[]⟩
def o132 : Obj := ⟨.type TS2, none, .seq #[.int 0 386] 0, #[]⟩
def o135 : Obj := ⟨.type TS2, none, .seq #[.str SS63 390, .str SS57 391, .str SS58 392, .str SS60 393, .str SS64 394, .str SS59 395, .str SS47 396] 0, #[]⟩
def o137 (P : Params) : Obj := ⟨.none, none, .func ⟨SS28, SS28, (fnF 19).1, .stmts (fnF 19).2.1, (fnF 19).2.2, 0, [], .none, .none, .none, .none, none, .none, .none, 0⟩, #[]⟩
def o138 : Obj := ⟨.type TS3, none, .fields #[.str SS28 387, .str SS28 388, .str SS9 389, .int 52 0, .int 4 0, .int 0 0, .int 0 0, .int 3 0, .ref 133, .bool true, .int 181 0, .ref 134, .none, .ref 135, .ref 136, .ref 137, .int 397 0, .int 52 0, .str SS9 398], #[]⟩
def o139 (P : Params) : Obj := ⟨.type TS5, none, .func ⟨SS28, SS28, (fnF 19).1, .stmts (fnF 19).2.1, (fnF 19).2.2, 3, [], .ref 132, .none, .none, .str SS1 265, none, .ref 138, .none, 0⟩, #[]⟩
def o142 : Obj := ⟨.type TS2, none, .seq #[.str SS64 403, .str SS47 404, .str SS65 405] 0, #[]⟩
def o144 (P : Params) : Obj := ⟨.none, none, .func ⟨SS29, SS29, (fnF 20).1, .stmts (fnF 20).2.1, (fnF 20).2.2, 0, [], .none, .none, .none, .none, none, .none, .none, 0⟩, #[]⟩
def o145 : Obj := ⟨.type TS3, none, .fields #[.str SS29 400, .str SS29 401, .str SS9 402, .int 58 0, .int 0 0, .int 0 0, .int 0 0, .int 3 0, .ref 140, .bool true, .int 181 0, .ref 141, .none, .ref 142, .ref 143, .ref 144, .int 406 0, .int 58 0, .str SS9 407], #[]⟩
def o146 (P : Params) : Obj := ⟨.type TS5, none, .func ⟨SS29, SS29, (fnF 20).1, .stmts (fnF 20).2.1, (fnF 20).2.2, 3, [], .none, .none, .none, .str SS1 265, none, .ref 145, .none, 0⟩, #[]⟩
noncomputable def o12a : Obj := ⟨.none, none, .fields #[.int 1 0, .int 0 0, .ref 20, .int 5 0, .int 0 0, .ref 27, .int 10 0, .int 0 0, .ref 48, .int 12 0, .int 0 0, .ref 60, .int 29 0, .int 0 0, .ref 79, .int 41 0, .int 0 0, .ref 108, .int 52 0, .int 0 0, .ref 138, .int 58 0, .int 0 0, .ref 145, .int 76 0, .int 0 0, .ref 152], #[]⟩
def o149 (P : Params) : Obj := ⟨.type TS0, none, .dict #[⟨PyData.keyHash P SS33, .str SS33 416, .str SS1 265⟩, ⟨PyData.keyHash P SS35, .str SS35 418, .str SS66 417⟩, ⟨PyData.keyHash P SS36, .str SS36 420, .int 76 419⟩] 3, #[]⟩
def o152 : Obj := ⟨.type TS3, none, .fields #[.str SS66 411, .str SS66 412, .str SS9 413, .int 76 0, .int 0 0, .int 0 0, .int 0 0, .int 0 0, .ref 150, .bool false, .int 181 0, .ref 151, .none, .none, .none, .none, .int 414 0, .int 76 0, .str SS9 415], #[]⟩
def o153 : Obj := ⟨.type TS4, none, .plain, #[some (.ref 152), some (.ref 3), some (.ref 149), none, some (.str SS1 265), none, some (.ref 0)]⟩
def o154 (P : Params) : Obj := ⟨.type TS4, none, .dict #[⟨PyData.keyHash P SS64, .str SS64 493, .ref 167⟩] 1, #[]⟩
def o155 (P : Params) : Obj := ⟨.type TS0, none, .dict #[⟨PyData.keyHash P SS47, .str SS47 430, .str SS67 421⟩, ⟨PyData.keyHash P SS57, .str SS57 432, .str SS68 422⟩, ⟨PyData.keyHash P SS58, .str SS58 434, .int 55 279⟩, ⟨PyData.keyHash P SS59, .str SS59 436, .int 0 352⟩, ⟨PyData.keyHash P SS60, .str SS60 438, .int 0 353⟩] 5, #[]⟩
noncomputable def o156 : Obj := ⟨.ref 127, some (155), .plain, #[]⟩
def o157 (P : Params) : Obj := ⟨.type TS4, none, .dict #[⟨PyData.keyHash P SS40, .str SS40 423, .ref 156⟩, ⟨PyData.keyHash P SS47, .str SS47 424, .str SS67 421⟩, ⟨PyData.keyHash P SS57, .str SS57 425, .str SS68 422⟩, ⟨PyData.keyHash P SS58, .str SS58 426, .int 55 279⟩, ⟨PyData.keyHash P SS59, .str SS59 427, .int 0 352⟩, ⟨PyData.keyHash P SS60, .str SS60 428, .int 0 353⟩] 6, #[]⟩
def o158 (P : Params) : Obj := ⟨.type TS0, none, .dict #[⟨PyData.keyHash P SS47, .str SS47 448, .str SS69 439⟩, ⟨PyData.keyHash P SS57, .str SS57 450, .str SS68 440⟩, ⟨PyData.keyHash P SS58, .str SS58 452, .int 23 273⟩, ⟨PyData.keyHash P SS59, .str SS59 454, .int 0 352⟩, ⟨PyData.keyHash P SS60, .str SS60 456, .int 0 353⟩] 5, #[]⟩
noncomputable def o159 : Obj := ⟨.ref 127, some (158), .plain, #[]⟩
def o160 (P : Params) : Obj := ⟨.type TS4, none, .dict #[⟨PyData.keyHash P SS40, .str SS40 441, .ref 159⟩, ⟨PyData.keyHash P SS47, .str SS47 442, .str SS69 439⟩, ⟨PyData.keyHash P SS57, .str SS57 443, .str SS68 440⟩, ⟨PyData.keyHash P SS58, .str SS58 444, .int 23 273⟩, ⟨PyData.keyHash P SS59, .str SS59 445, .int 0 352⟩, ⟨PyData.keyHash P SS60, .str SS60 446, .int 0 353⟩] 6, #[]⟩
def o161 (P : Params) : Obj := ⟨.type TS0, none, .dict #[⟨PyData.keyHash P SS47, .str SS47 466, .str SS70 457⟩, ⟨PyData.keyHash P SS57, .str SS57 468, .str SS71 458⟩, ⟨PyData.keyHash P SS58, .str SS58 470, .int 111 285⟩, ⟨PyData.keyHash P SS59, .str SS59 472, .int 0 352⟩, ⟨PyData.keyHash P SS60, .str SS60 474, .int 0 353⟩] 5, #[]⟩
noncomputable def o162 : Obj := ⟨.ref 127, some (161), .plain, #[]⟩
def o163 (P : Params) : Obj := ⟨.type TS4, none, .dict #[⟨PyData.keyHash P SS40, .str SS40 459, .ref 162⟩, ⟨PyData.keyHash P SS47, .str SS47 460, .str SS70 457⟩, ⟨PyData.keyHash P SS57, .str SS57 461, .str SS71 458⟩, ⟨PyData.keyHash P SS58, .str SS58 462, .int 111 285⟩, ⟨PyData.keyHash P SS59, .str SS59 463, .int 0 352⟩, ⟨PyData.keyHash P SS60, .str SS60 464, .int 0 353⟩] 6, #[]⟩
def o164 (P : Params) : Obj := ⟨.type TS0, none, .dict #[⟨PyData.keyHash P SS47, .str SS47 484, .str SS72 475⟩, ⟨PyData.keyHash P SS57, .str SS57 486, .str SS73 476⟩, ⟨PyData.keyHash P SS58, .str SS58 488, .int 103 283⟩, ⟨PyData.keyHash P SS59, .str SS59 490, .int 0 352⟩, ⟨PyData.keyHash P SS60, .str SS60 492, .int 0 353⟩] 5, #[]⟩
noncomputable def o165 : Obj := ⟨.ref 127, some (164), .plain, #[]⟩
def o166 (P : Params) : Obj := ⟨.type TS4, none, .dict #[⟨PyData.keyHash P SS40, .str SS40 477, .ref 165⟩, ⟨PyData.keyHash P SS47, .str SS47 478, .str SS72 475⟩, ⟨PyData.keyHash P SS57, .str SS57 479, .str SS73 476⟩, ⟨PyData.keyHash P SS58, .str SS58 480, .int 103 283⟩, ⟨PyData.keyHash P SS59, .str SS59 481, .int 0 352⟩, ⟨PyData.keyHash P SS60, .str SS60 482, .int 0 353⟩] 6, #[]⟩
def o167 : Obj := ⟨.type TS21, none, .seq #[.ref 156, .ref 159, .ref 162, .ref 165, .ref 178, .ref 185, .ref 200, .ref 207, .ref 214, .ref 221] 1, #[]⟩
def o168 (P : Params) : Obj := ⟨.type TS4, none, .dict #[⟨PyData.keyHash P SS63, .str SS63 496, .str SS74 494⟩, ⟨PyData.keyHash P SS57, .str SS57 497, .str SS75 495⟩, ⟨PyData.keyHash P SS58, .str SS58 498, .int 99 281⟩, ⟨PyData.keyHash P SS60, .str SS60 499, .int 0 386⟩, ⟨PyData.keyHash P SS64, .str SS64 500, .ref 169⟩, ⟨PyData.keyHash P SS59, .str SS59 511, .int 7 618⟩, ⟨PyData.keyHash P SS47, .str SS47 512, .str SS76 509⟩] 7, #[]⟩
def o169 : Obj := ⟨.type TS21, none, .seq #[.ref 178, .ref 185, .ref 200, .ref 207, .ref 214, .ref 221] 6, #[]⟩
def o170 : Obj := ⟨.type TS21, none, .seq #[.str SS77 502, .str SS78 503, .str SS79 504, .str SS79 505, .str SS80 506, .str SS81 507, .str SS82 508, .str SS76 509] 0, #[]⟩
def o171 : Obj := ⟨.type TS22, none, .fields #[.none, .int 8 0], #[]⟩
def o172 : Obj := ⟨.type TS23, none, .fields #[.none, .bool false, .ref 171, .int 8 0, .none, .str SS76 509], #[]⟩
def o173 : Obj := ⟨.type TS2, none, .seq #[.int 0 510, .str SS77 502] 0, #[]⟩
def o174 : Obj := ⟨.type TS24, none, .fields #[.none, .int 2 0], #[]⟩
def o176 : Obj := gf 175
def o177 (P : Params) : Obj := ⟨.type TS0, none, .dict #[⟨PyData.keyHash P SS47, .str SS47 521, .str SS77 502⟩, ⟨PyData.keyHash P SS57, .str SS57 523, .str SS75 495⟩, ⟨PyData.keyHash P SS58, .str SS58 525, .int 99 281⟩, ⟨PyData.keyHash P SS59, .str SS59 527, .int 0 510⟩, ⟨PyData.keyHash P SS60, .str SS60 529, .int 0 386⟩] 5, #[]⟩
noncomputable def o178 : Obj := ⟨.ref 127, some (177), .plain, #[]⟩
def o179 (P : Params) : Obj := ⟨.type TS4, none, .dict #[⟨PyData.keyHash P SS40, .str SS40 514, .ref 178⟩, ⟨PyData.keyHash P SS47, .str SS47 515, .str SS77 502⟩, ⟨PyData.keyHash P SS57, .str SS57 516, .str SS75 495⟩, ⟨PyData.keyHash P SS58, .str SS58 517, .int 99 281⟩, ⟨PyData.keyHash P SS59, .str SS59 518, .int 0 510⟩, ⟨PyData.keyHash P SS60, .str SS60 519, .int 0 386⟩] 6, #[]⟩
def o180 : Obj := ⟨.type TS2, none, .seq #[.int 1 530, .str SS78 503] 0, #[]⟩
def o183 : Obj := gf 182
def o184 (P : Params) : Obj := ⟨.type TS0, none, .dict #[⟨PyData.keyHash P SS47, .str SS47 541, .str SS78 503⟩, ⟨PyData.keyHash P SS57, .str SS57 543, .str SS75 495⟩, ⟨PyData.keyHash P SS58, .str SS58 545, .int 99 281⟩, ⟨PyData.keyHash P SS59, .str SS59 547, .int 1 530⟩, ⟨PyData.keyHash P SS60, .str SS60 549, .int 0 386⟩] 5, #[]⟩
noncomputable def o185 : Obj := ⟨.ref 127, some (184), .plain, #[]⟩
def o186 (P : Params) : Obj := ⟨.type TS4, none, .dict #[⟨PyData.keyHash P SS40, .str SS40 534, .ref 185⟩, ⟨PyData.keyHash P SS47, .str SS47 535, .str SS78 503⟩, ⟨PyData.keyHash P SS57, .str SS57 536, .str SS75 495⟩, ⟨PyData.keyHash P SS58, .str SS58 537, .int 99 281⟩, ⟨PyData.keyHash P SS59, .str SS59 538, .int 1 530⟩, ⟨PyData.keyHash P SS60, .str SS60 539, .int 0 386⟩] 6, #[]⟩
def o187 : Obj := ⟨.type TS2, none, .seq #[.int 2 550, .str SS79 504] 0, #[]⟩
def o190 : Obj := gf 189
def o191 : Obj := ⟨.type TS2, none, .seq #[.int 3 554, .str SS79 505] 0, #[]⟩
def o194 : Obj := gf 193
def o195 : Obj := ⟨.type TS2, none, .seq #[.int 4 558, .str SS80 506] 0, #[]⟩
def o198 : Obj := gf 197
def o199 (P : Params) : Obj := ⟨.type TS0, none, .dict #[⟨PyData.keyHash P SS47, .str SS47 569, .str SS80 506⟩, ⟨PyData.keyHash P SS57, .str SS57 571, .str SS75 495⟩, ⟨PyData.keyHash P SS58, .str SS58 573, .int 99 281⟩, ⟨PyData.keyHash P SS59, .str SS59 575, .int 4 558⟩, ⟨PyData.keyHash P SS60, .str SS60 577, .int 0 386⟩] 5, #[]⟩
noncomputable def o200 : Obj := ⟨.ref 127, some (199), .plain, #[]⟩
def o201 (P : Params) : Obj := ⟨.type TS4, none, .dict #[⟨PyData.keyHash P SS40, .str SS40 562, .ref 200⟩, ⟨PyData.keyHash P SS47, .str SS47 563, .str SS80 506⟩, ⟨PyData.keyHash P SS57, .str SS57 564, .str SS75 495⟩, ⟨PyData.keyHash P SS58, .str SS58 565, .int 99 281⟩, ⟨PyData.keyHash P SS59, .str SS59 566, .int 4 558⟩, ⟨PyData.keyHash P SS60, .str SS60 567, .int 0 386⟩] 6, #[]⟩
def o202 : Obj := ⟨.type TS2, none, .seq #[.int 5 578, .str SS81 507] 0, #[]⟩
def o205 : Obj := gf 204
def o206 (P : Params) : Obj := ⟨.type TS0, none, .dict #[⟨PyData.keyHash P SS47, .str SS47 589, .str SS81 507⟩, ⟨PyData.keyHash P SS57, .str SS57 591, .str SS75 495⟩, ⟨PyData.keyHash P SS58, .str SS58 593, .int 99 281⟩, ⟨PyData.keyHash P SS59, .str SS59 595, .int 5 578⟩, ⟨PyData.keyHash P SS60, .str SS60 597, .int 0 386⟩] 5, #[]⟩
noncomputable def o207 : Obj := ⟨.ref 127, some (206), .plain, #[]⟩
def o208 (P : Params) : Obj := ⟨.type TS4, none, .dict #[⟨PyData.keyHash P SS40, .str SS40 582, .ref 207⟩, ⟨PyData.keyHash P SS47, .str SS47 583, .str SS81 507⟩, ⟨PyData.keyHash P SS57, .str SS57 584, .str SS75 495⟩, ⟨PyData.keyHash P SS58, .str SS58 585, .int 99 281⟩, ⟨PyData.keyHash P SS59, .str SS59 586, .int 5 578⟩, ⟨PyData.keyHash P SS60, .str SS60 587, .int 0 386⟩] 6, #[]⟩
def o209 : Obj := ⟨.type TS2, none, .seq #[.int 6 598, .str SS82 508] 0, #[]⟩
def o212 : Obj := gf 211
def o213 (P : Params) : Obj := ⟨.type TS0, none, .dict #[⟨PyData.keyHash P SS47, .str SS47 609, .str SS82 508⟩, ⟨PyData.keyHash P SS57, .str SS57 611, .str SS75 495⟩, ⟨PyData.keyHash P SS58, .str SS58 613, .int 99 281⟩, ⟨PyData.keyHash P SS59, .str SS59 615, .int 6 598⟩, ⟨PyData.keyHash P SS60, .str SS60 617, .int 0 386⟩] 5, #[]⟩
noncomputable def o214 : Obj := ⟨.ref 127, some (213), .plain, #[]⟩
def o215 (P : Params) : Obj := ⟨.type TS4, none, .dict #[⟨PyData.keyHash P SS40, .str SS40 602, .ref 214⟩, ⟨PyData.keyHash P SS47, .str SS47 603, .str SS82 508⟩, ⟨PyData.keyHash P SS57, .str SS57 604, .str SS75 495⟩, ⟨PyData.keyHash P SS58, .str SS58 605, .int 99 281⟩, ⟨PyData.keyHash P SS59, .str SS59 606, .int 6 598⟩, ⟨PyData.keyHash P SS60, .str SS60 607, .int 0 386⟩] 6, #[]⟩
def o216 : Obj := ⟨.type TS2, none, .seq #[.int 7 618, .str SS76 509] 0, #[]⟩
def o219 : Obj := gf 218
def o220 (P : Params) : Obj := ⟨.type TS0, none, .dict #[⟨PyData.keyHash P SS47, .str SS47 629, .str SS76 509⟩, ⟨PyData.keyHash P SS57, .str SS57 631, .str SS75 495⟩, ⟨PyData.keyHash P SS58, .str SS58 633, .int 99 281⟩, ⟨PyData.keyHash P SS59, .str SS59 635, .int 7 618⟩, ⟨PyData.keyHash P SS60, .str SS60 637, .int 0 386⟩] 5, #[]⟩
noncomputable def o221 : Obj := ⟨.ref 127, some (220), .plain, #[]⟩
def o222 (P : Params) : Obj := ⟨.type TS4, none, .dict #[⟨PyData.keyHash P SS40, .str SS40 622, .ref 221⟩, ⟨PyData.keyHash P SS47, .str SS47 623, .str SS76 509⟩, ⟨PyData.keyHash P SS57, .str SS57 624, .str SS75 495⟩, ⟨PyData.keyHash P SS58, .str SS58 625, .int 99 281⟩, ⟨PyData.keyHash P SS59, .str SS59 626, .int 7 618⟩, ⟨PyData.keyHash P SS60, .str SS60 627, .int 0 386⟩] 6, #[]⟩
def o224 : Obj := gf 223
def o167a : Obj := ⟨.type TS21, none, .seq #[.ref 156, .ref 159, .ref 162, .ref 165, .ref 178, .ref 185, .ref 200, .ref 207, .ref 214, .ref 221, .ref 235, .ref 242, .ref 249, .ref 260, .ref 267, .ref 281, .ref 288, .ref 295] 3, #[]⟩
def o225 (P : Params) : Obj := ⟨.type TS4, none, .dict #[⟨PyData.keyHash P SS63, .str SS63 640, .str SS83 638⟩, ⟨PyData.keyHash P SS57, .str SS57 641, .str SS73 639⟩, ⟨PyData.keyHash P SS58, .str SS58 642, .int 3 267⟩, ⟨PyData.keyHash P SS60, .str SS60 643, .int 0 386⟩, ⟨PyData.keyHash P SS64, .str SS64 644, .ref 226⟩, ⟨PyData.keyHash P SS59, .str SS59 653, .int 5 736⟩, ⟨PyData.keyHash P SS47, .str SS47 654, .str SS84 651⟩] 7, #[]⟩
def o226 : Obj := ⟨.type TS21, none, .seq #[.ref 235, .ref 242, .ref 249, .ref 260, .ref 267] 5, #[]⟩
def o227 : Obj := ⟨.type TS21, none, .seq #[.str SS85 646, .str SS86 647, .str SS87 648, .str SS79 649, .str SS88 650, .str SS84 651] 0, #[]⟩
def o228 : Obj := ⟨.type TS22, none, .fields #[.none, .int 6 0], #[]⟩
def o229 : Obj := ⟨.type TS23, none, .fields #[.none, .bool false, .ref 228, .int 6 0, .none, .str SS84 651], #[]⟩
def o230 : Obj := ⟨.type TS2, none, .seq #[.int 0 652, .str SS85 646] 0, #[]⟩
def o233 : Obj := gf 232
def o234 (P : Params) : Obj := ⟨.type TS0, none, .dict #[⟨PyData.keyHash P SS47, .str SS47 663, .str SS85 646⟩, ⟨PyData.keyHash P SS57, .str SS57 665, .str SS73 639⟩, ⟨PyData.keyHash P SS58, .str SS58 667, .int 3 267⟩, ⟨PyData.keyHash P SS59, .str SS59 669, .int 0 652⟩, ⟨PyData.keyHash P SS60, .str SS60 671, .int 0 386⟩] 5, #[]⟩
noncomputable def o235 : Obj := ⟨.ref 127, some (234), .plain, #[]⟩
def o236 (P : Params) : Obj := ⟨.type TS4, none, .dict #[⟨PyData.keyHash P SS40, .str SS40 656, .ref 235⟩, ⟨PyData.keyHash P SS47, .str SS47 657, .str SS85 646⟩, ⟨PyData.keyHash P SS57, .str SS57 658, .str SS73 639⟩, ⟨PyData.keyHash P SS58, .str SS58 659, .int 3 267⟩, ⟨PyData.keyHash P SS59, .str SS59 660, .int 0 652⟩, ⟨PyData.keyHash P SS60, .str SS60 661, .int 0 386⟩] 6, #[]⟩
def o237 : Obj := ⟨.type TS2, none, .seq #[.int 1 672, .str SS86 647] 0, #[]⟩
def o240 : Obj := gf 239
def o241 (P : Params) : Obj := ⟨.type TS0, none, .dict #[⟨PyData.keyHash P SS47, .str SS47 683, .str SS86 647⟩, ⟨PyData.keyHash P SS57, .str SS57 685, .str SS73 639⟩, ⟨PyData.keyHash P SS58, .str SS58 687, .int 3 267⟩, ⟨PyData.keyHash P SS59, .str SS59 689, .int 1 672⟩, ⟨PyData.keyHash P SS60, .str SS60 691, .int 0 386⟩] 5, #[]⟩
noncomputable def o242 : Obj := ⟨.ref 127, some (241), .plain, #[]⟩
def o243 (P : Params) : Obj := ⟨.type TS4, none, .dict #[⟨PyData.keyHash P SS40, .str SS40 676, .ref 242⟩, ⟨PyData.keyHash P SS47, .str SS47 677, .str SS86 647⟩, ⟨PyData.keyHash P SS57, .str SS57 678, .str SS73 639⟩, ⟨PyData.keyHash P SS58, .str SS58 679, .int 3 267⟩, ⟨PyData.keyHash P SS59, .str SS59 680, .int 1 672⟩, ⟨PyData.keyHash P SS60, .str SS60 681, .int 0 386⟩] 6, #[]⟩
def o244 : Obj := ⟨.type TS2, none, .seq #[.int 2 692, .str SS87 648] 0, #[]⟩
def o247 : Obj := gf 246
def o248 (P : Params) : Obj := ⟨.type TS0, none, .dict #[⟨PyData.keyHash P SS47, .str SS47 703, .str SS87 648⟩, ⟨PyData.keyHash P SS57, .str SS57 705, .str SS73 639⟩, ⟨PyData.keyHash P SS58, .str SS58 707, .int 3 267⟩, ⟨PyData.keyHash P SS59, .str SS59 709, .int 2 692⟩, ⟨PyData.keyHash P SS60, .str SS60 711, .int 0 386⟩] 5, #[]⟩
noncomputable def o249 : Obj := ⟨.ref 127, some (248), .plain, #[]⟩
def o250 (P : Params) : Obj := ⟨.type TS4, none, .dict #[⟨PyData.keyHash P SS40, .str SS40 696, .ref 249⟩, ⟨PyData.keyHash P SS47, .str SS47 697, .str SS87 648⟩, ⟨PyData.keyHash P SS57, .str SS57 698, .str SS73 639⟩, ⟨PyData.keyHash P SS58, .str SS58 699, .int 3 267⟩, ⟨PyData.keyHash P SS59, .str SS59 700, .int 2 692⟩, ⟨PyData.keyHash P SS60, .str SS60 701, .int 0 386⟩] 6, #[]⟩
def o251 : Obj := ⟨.type TS2, none, .seq #[.int 3 712, .str SS79 649] 0, #[]⟩
def o254 : Obj := gf 253
def o255 : Obj := ⟨.type TS2, none, .seq #[.int 4 716, .str SS88 650] 0, #[]⟩
def o258 : Obj := gf 257
def o259 (P : Params) : Obj := ⟨.type TS0, none, .dict #[⟨PyData.keyHash P SS47, .str SS47 727, .str SS88 650⟩, ⟨PyData.keyHash P SS57, .str SS57 729, .str SS73 639⟩, ⟨PyData.keyHash P SS58, .str SS58 731, .int 3 267⟩, ⟨PyData.keyHash P SS59, .str SS59 733, .int 4 716⟩, ⟨PyData.keyHash P SS60, .str SS60 735, .int 0 386⟩] 5, #[]⟩
noncomputable def o260 : Obj := ⟨.ref 127, some (259), .plain, #[]⟩
def o261 (P : Params) : Obj := ⟨.type TS4, none, .dict #[⟨PyData.keyHash P SS40, .str SS40 720, .ref 260⟩, ⟨PyData.keyHash P SS47, .str SS47 721, .str SS88 650⟩, ⟨PyData.keyHash P SS57, .str SS57 722, .str SS73 639⟩, ⟨PyData.keyHash P SS58, .str SS58 723, .int 3 267⟩, ⟨PyData.keyHash P SS59, .str SS59 724, .int 4 716⟩, ⟨PyData.keyHash P SS60, .str SS60 725, .int 0 386⟩] 6, #[]⟩
def o262 : Obj := ⟨.type TS2, none, .seq #[.int 5 736, .str SS84 651] 0, #[]⟩
def o265 : Obj := gf 264
def o266 (P : Params) : Obj := ⟨.type TS0, none, .dict #[⟨PyData.keyHash P SS47, .str SS47 747, .str SS84 651⟩, ⟨PyData.keyHash P SS57, .str SS57 749, .str SS73 639⟩, ⟨PyData.keyHash P SS58, .str SS58 751, .int 3 267⟩, ⟨PyData.keyHash P SS59, .str SS59 753, .int 5 736⟩, ⟨PyData.keyHash P SS60, .str SS60 755, .int 0 386⟩] 5, #[]⟩
noncomputable def o267 : Obj := ⟨.ref 127, some (266), .plain, #[]⟩
def o268 (P : Params) : Obj := ⟨.type TS4, none, .dict #[⟨PyData.keyHash P SS40, .str SS40 740, .ref 267⟩, ⟨PyData.keyHash P SS47, .str SS47 741, .str SS84 651⟩, ⟨PyData.keyHash P SS57, .str SS57 742, .str SS73 639⟩, ⟨PyData.keyHash P SS58, .str SS58 743, .int 3 267⟩, ⟨PyData.keyHash P SS59, .str SS59 744, .int 5 736⟩, ⟨PyData.keyHash P SS60, .str SS60 745, .int 0 386⟩] 6, #[]⟩
def o270 : Obj := gf 269
def o271 (P : Params) : Obj := ⟨.type TS4, none, .dict #[⟨PyData.keyHash P SS63, .str SS63 758, .str SS89 756⟩, ⟨PyData.keyHash P SS57, .str SS57 759, .str SS90 757⟩, ⟨PyData.keyHash P SS58, .str SS58 760, .int 35 275⟩, ⟨PyData.keyHash P SS60, .str SS60 761, .int 0 386⟩, ⟨PyData.keyHash P SS64, .str SS64 762, .ref 272⟩, ⟨PyData.keyHash P SS59, .str SS59 768, .int 2 807⟩, ⟨PyData.keyHash P SS47, .str SS47 769, .str SS91 766⟩] 7, #[]⟩
def o272 : Obj := ⟨.type TS21, none, .seq #[.ref 281, .ref 288, .ref 295] 3, #[]⟩
def o273 : Obj := ⟨.type TS21, none, .seq #[.str SS92 764, .str SS93 765, .str SS91 766] 0, #[]⟩
def o274 : Obj := ⟨.type TS22, none, .fields #[.none, .int 3 0], #[]⟩
def o275 : Obj := ⟨.type TS23, none, .fields #[.none, .bool false, .ref 274, .int 3 0, .none, .str SS91 766], #[]⟩
def o276 : Obj := ⟨.type TS2, none, .seq #[.int 0 767, .str SS92 764] 0, #[]⟩
def o279 : Obj := gf 278
def o280 (P : Params) : Obj := ⟨.type TS0, none, .dict #[⟨PyData.keyHash P SS47, .str SS47 778, .str SS92 764⟩, ⟨PyData.keyHash P SS57, .str SS57 780, .str SS90 757⟩, ⟨PyData.keyHash P SS58, .str SS58 782, .int 35 275⟩, ⟨PyData.keyHash P SS59, .str SS59 784, .int 0 767⟩, ⟨PyData.keyHash P SS60, .str SS60 786, .int 0 386⟩] 5, #[]⟩
noncomputable def o281 : Obj := ⟨.ref 127, some (280), .plain, #[]⟩
def o282 (P : Params) : Obj := ⟨.type TS4, none, .dict #[⟨PyData.keyHash P SS40, .str SS40 771, .ref 281⟩, ⟨PyData.keyHash P SS47, .str SS47 772, .str SS92 764⟩, ⟨PyData.keyHash P SS57, .str SS57 773, .str SS90 757⟩, ⟨PyData.keyHash P SS58, .str SS58 774, .int 35 275⟩, ⟨PyData.keyHash P SS59, .str SS59 775, .int 0 767⟩, ⟨PyData.keyHash P SS60, .str SS60 776, .int 0 386⟩] 6, #[]⟩
def o283 : Obj := ⟨.type TS2, none, .seq #[.int 1 787, .str SS93 765] 0, #[]⟩
def o286 : Obj := gf 285
def o287 (P : Params) : Obj := ⟨.type TS0, none, .dict #[⟨PyData.keyHash P SS47, .str SS47 798, .str SS93 765⟩, ⟨PyData.keyHash P SS57, .str SS57 800, .str SS90 757⟩, ⟨PyData.keyHash P SS58, .str SS58 802, .int 35 275⟩, ⟨PyData.keyHash P SS59, .str SS59 804, .int 1 787⟩, ⟨PyData.keyHash P SS60, .str SS60 806, .int 0 386⟩] 5, #[]⟩
noncomputable def o288 : Obj := ⟨.ref 127, some (287), .plain, #[]⟩
def o289 (P : Params) : Obj := ⟨.type TS4, none, .dict #[⟨PyData.keyHash P SS40, .str SS40 791, .ref 288⟩, ⟨PyData.keyHash P SS47, .str SS47 792, .str SS93 765⟩, ⟨PyData.keyHash P SS57, .str SS57 793, .str SS90 757⟩, ⟨PyData.keyHash P SS58, .str SS58 794, .int 35 275⟩, ⟨PyData.keyHash P SS59, .str SS59 795, .int 1 787⟩, ⟨PyData.keyHash P SS60, .str SS60 796, .int 0 386⟩] 6, #[]⟩
def o290 : Obj := ⟨.type TS2, none, .seq #[.int 2 807, .str SS91 766] 0, #[]⟩
def o293 : Obj := gf 292
def o294 (P : Params) : Obj := ⟨.type TS0, none, .dict #[⟨PyData.keyHash P SS47, .str SS47 818, .str SS91 766⟩, ⟨PyData.keyHash P SS57, .str SS57 820, .str SS90 757⟩, ⟨PyData.keyHash P SS58, .str SS58 822, .int 35 275⟩, ⟨PyData.keyHash P SS59, .str SS59 824, .int 2 807⟩, ⟨PyData.keyHash P SS60, .str SS60 826, .int 0 386⟩] 5, #[]⟩
noncomputable def o295 : Obj := ⟨.ref 127, some (294), .plain, #[]⟩
def o296 (P : Params) : Obj := ⟨.type TS4, none, .dict #[⟨PyData.keyHash P SS40, .str SS40 811, .ref 295⟩, ⟨PyData.keyHash P SS47, .str SS47 812, .str SS91 766⟩, ⟨PyData.keyHash P SS57, .str SS57 813, .str SS90 757⟩, ⟨PyData.keyHash P SS58, .str SS58 814, .int 35 275⟩, ⟨PyData.keyHash P SS59, .str SS59 815, .int 2 807⟩, ⟨PyData.keyHash P SS60, .str SS60 816, .int 0 386⟩] 6, #[]⟩
def o298 : Obj := gf 297
def o167b : Obj := ⟨.type TS21, none, .seq #[.ref 156, .ref 159, .ref 162, .ref 165, .ref 178, .ref 185, .ref 200, .ref 207, .ref 214, .ref 221, .ref 235, .ref 242, .ref 249, .ref 260, .ref 267, .ref 281, .ref 288, .ref 295, .ref 309, .ref 320, .ref 327, .ref 334, .ref 345, .ref 352, .ref 370, .ref 389] 5, #[]⟩
def o299 (P : Params) : Obj := ⟨.type TS4, none, .dict #[⟨PyData.keyHash P SS63, .str SS63 829, .str SS94 827⟩, ⟨PyData.keyHash P SS57, .str SS57 830, .str SS73 828⟩, ⟨PyData.keyHash P SS58, .str SS58 831, .int 19 271⟩, ⟨PyData.keyHash P SS60, .str SS60 832, .int 0 386⟩, ⟨PyData.keyHash P SS64, .str SS64 833, .ref 300⟩, ⟨PyData.keyHash P SS59, .str SS59 844, .int 7 951⟩, ⟨PyData.keyHash P SS47, .str SS47 845, .str SS95 842⟩] 7, #[]⟩
def o300 : Obj := ⟨.type TS21, none, .seq #[.ref 309, .ref 320, .ref 327, .ref 334, .ref 345, .ref 352] 6, #[]⟩
def o301 : Obj := ⟨.type TS21, none, .seq #[.str SS96 835, .str SS79 836, .str SS97 837, .str SS98 838, .str SS99 839, .str SS79 840, .str SS100 841, .str SS95 842] 0, #[]⟩
def o303 : Obj := ⟨.type TS23, none, .fields #[.none, .bool false, .ref 302, .int 8 0, .none, .str SS95 842], #[]⟩
def o304 : Obj := ⟨.type TS2, none, .seq #[.int 0 843, .str SS96 835] 0, #[]⟩
def o307 : Obj := gf 306
def o308 (P : Params) : Obj := ⟨.type TS0, none, .dict #[⟨PyData.keyHash P SS47, .str SS47 854, .str SS96 835⟩, ⟨PyData.keyHash P SS57, .str SS57 856, .str SS73 828⟩, ⟨PyData.keyHash P SS58, .str SS58 858, .int 19 271⟩, ⟨PyData.keyHash P SS59, .str SS59 860, .int 0 843⟩, ⟨PyData.keyHash P SS60, .str SS60 862, .int 0 386⟩] 5, #[]⟩
noncomputable def o309 : Obj := ⟨.ref 127, some (308), .plain, #[]⟩
def o310 (P : Params) : Obj := ⟨.type TS4, none, .dict #[⟨PyData.keyHash P SS40, .str SS40 847, .ref 309⟩, ⟨PyData.keyHash P SS47, .str SS47 848, .str SS96 835⟩, ⟨PyData.keyHash P SS57, .str SS57 849, .str SS73 828⟩, ⟨PyData.keyHash P SS58, .str SS58 850, .int 19 271⟩, ⟨PyData.keyHash P SS59, .str SS59 851, .int 0 843⟩, ⟨PyData.keyHash P SS60, .str SS60 852, .int 0 386⟩] 6, #[]⟩
def o311 : Obj := ⟨.type TS2, none, .seq #[.int 1 863, .str SS79 836] 0, #[]⟩
def o314 : Obj := gf 313
def o315 : Obj := ⟨.type TS2, none, .seq #[.int 2 867, .str SS97 837] 0, #[]⟩
def o318 : Obj := gf 317
def o319 (P : Params) : Obj := ⟨.type TS0, none, .dict #[⟨PyData.keyHash P SS47, .str SS47 878, .str SS97 837⟩, ⟨PyData.keyHash P SS57, .str SS57 880, .str SS73 828⟩, ⟨PyData.keyHash P SS58, .str SS58 882, .int 19 271⟩, ⟨PyData.keyHash P SS59, .str SS59 884, .int 2 867⟩, ⟨PyData.keyHash P SS60, .str SS60 886, .int 0 386⟩] 5, #[]⟩
noncomputable def o320 : Obj := ⟨.ref 127, some (319), .plain, #[]⟩
def o321 (P : Params) : Obj := ⟨.type TS4, none, .dict #[⟨PyData.keyHash P SS40, .str SS40 871, .ref 320⟩, ⟨PyData.keyHash P SS47, .str SS47 872, .str SS97 837⟩, ⟨PyData.keyHash P SS57, .str SS57 873, .str SS73 828⟩, ⟨PyData.keyHash P SS58, .str SS58 874, .int 19 271⟩, ⟨PyData.keyHash P SS59, .str SS59 875, .int 2 867⟩, ⟨PyData.keyHash P SS60, .str SS60 876, .int 0 386⟩] 6, #[]⟩
def o322 : Obj := ⟨.type TS2, none, .seq #[.int 3 887, .str SS98 838] 0, #[]⟩
def o325 : Obj := gf 324
def o326 (P : Params) : Obj := ⟨.type TS0, none, .dict #[⟨PyData.keyHash P SS47, .str SS47 898, .str SS98 838⟩, ⟨PyData.keyHash P SS57, .str SS57 900, .str SS73 828⟩, ⟨PyData.keyHash P SS58, .str SS58 902, .int 19 271⟩, ⟨PyData.keyHash P SS59, .str SS59 904, .int 3 887⟩, ⟨PyData.keyHash P SS60, .str SS60 906, .int 0 386⟩] 5, #[]⟩
noncomputable def o327 : Obj := ⟨.ref 127, some (326), .plain, #[]⟩
def o328 (P : Params) : Obj := ⟨.type TS4, none, .dict #[⟨PyData.keyHash P SS40, .str SS40 891, .ref 327⟩, ⟨PyData.keyHash P SS47, .str SS47 892, .str SS98 838⟩, ⟨PyData.keyHash P SS57, .str SS57 893, .str SS73 828⟩, ⟨PyData.keyHash P SS58, .str SS58 894, .int 19 271⟩, ⟨PyData.keyHash P SS59, .str SS59 895, .int 3 887⟩, ⟨PyData.keyHash P SS60, .str SS60 896, .int 0 386⟩] 6, #[]⟩
def o329 : Obj := ⟨.type TS2, none, .seq #[.int 4 907, .str SS99 839] 0, #[]⟩
def o332 : Obj := gf 331
def o333 (P : Params) : Obj := ⟨.type TS0, none, .dict #[⟨PyData.keyHash P SS47, .str SS47 918, .str SS99 839⟩, ⟨PyData.keyHash P SS57, .str SS57 920, .str SS73 828⟩, ⟨PyData.keyHash P SS58, .str SS58 922, .int 19 271⟩, ⟨PyData.keyHash P SS59, .str SS59 924, .int 4 907⟩, ⟨PyData.keyHash P SS60, .str SS60 926, .int 0 386⟩] 5, #[]⟩
noncomputable def o334 : Obj := ⟨.ref 127, some (333), .plain, #[]⟩
def o335 (P : Params) : Obj := ⟨.type TS4, none, .dict #[⟨PyData.keyHash P SS40, .str SS40 911, .ref 334⟩, ⟨PyData.keyHash P SS47, .str SS47 912, .str SS99 839⟩, ⟨PyData.keyHash P SS57, .str SS57 913, .str SS73 828⟩, ⟨PyData.keyHash P SS58, .str SS58 914, .int 19 271⟩, ⟨PyData.keyHash P SS59, .str SS59 915, .int 4 907⟩, ⟨PyData.keyHash P SS60, .str SS60 916, .int 0 386⟩] 6, #[]⟩
def o336 : Obj := ⟨.type TS2, none, .seq #[.int 5 927, .str SS79 840] 0, #[]⟩
def o339 : Obj := gf 338
def o340 : Obj := ⟨.type TS2, none, .seq #[.int 6 931, .str SS100 841] 0, #[]⟩
def o343 : Obj := gf 342
def o344 (P : Params) : Obj := ⟨.type TS0, none, .dict #[⟨PyData.keyHash P SS47, .str SS47 942, .str SS100 841⟩, ⟨PyData.keyHash P SS57, .str SS57 944, .str SS73 828⟩, ⟨PyData.keyHash P SS58, .str SS58 946, .int 19 271⟩, ⟨PyData.keyHash P SS59, .str SS59 948, .int 6 931⟩, ⟨PyData.keyHash P SS60, .str SS60 950, .int 0 386⟩] 5, #[]⟩
noncomputable def o345 : Obj := ⟨.ref 127, some (344), .plain, #[]⟩
def o346 (P : Params) : Obj := ⟨.type TS4, none, .dict #[⟨PyData.keyHash P SS40, .str SS40 935, .ref 345⟩, ⟨PyData.keyHash P SS47, .str SS47 936, .str SS100 841⟩, ⟨PyData.keyHash P SS57, .str SS57 937, .str SS73 828⟩, ⟨PyData.keyHash P SS58, .str SS58 938, .int 19 271⟩, ⟨PyData.keyHash P SS59, .str SS59 939, .int 6 931⟩, ⟨PyData.keyHash P SS60, .str SS60 940, .int 0 386⟩] 6, #[]⟩
def o347 : Obj := ⟨.type TS2, none, .seq #[.int 7 951, .str SS95 842] 0, #[]⟩
def o350 : Obj := gf 349
def o351 (P : Params) : Obj := ⟨.type TS0, none, .dict #[⟨PyData.keyHash P SS47, .str SS47 962, .str SS95 842⟩, ⟨PyData.keyHash P SS57, .str SS57 964, .str SS73 828⟩, ⟨PyData.keyHash P SS58, .str SS58 966, .int 19 271⟩, ⟨PyData.keyHash P SS59, .str SS59 968, .int 7 951⟩, ⟨PyData.keyHash P SS60, .str SS60 970, .int 0 386⟩] 5, #[]⟩
noncomputable def o352 : Obj := ⟨.ref 127, some (351), .plain, #[]⟩
def o353 (P : Params) : Obj := ⟨.type TS4, none, .dict #[⟨PyData.keyHash P SS40, .str SS40 955, .ref 352⟩, ⟨PyData.keyHash P SS47, .str SS47 956, .str SS95 842⟩, ⟨PyData.keyHash P SS57, .str SS57 957, .str SS73 828⟩, ⟨PyData.keyHash P SS58, .str SS58 958, .int 19 271⟩, ⟨PyData.keyHash P SS59, .str SS59 959, .int 7 951⟩, ⟨PyData.keyHash P SS60, .str SS60 960, .int 0 386⟩] 6, #[]⟩
def o355 : Obj := gf 354
def o356 (P : Params) : Obj := ⟨.type TS4, none, .dict #[⟨PyData.keyHash P SS63, .str SS63 973, .str SS101 971⟩, ⟨PyData.keyHash P SS57, .str SS57 974, .str SS102 972⟩, ⟨PyData.keyHash P SS58, .str SS58 975, .int 19 271⟩, ⟨PyData.keyHash P SS60, .str SS60 976, .int 0 386⟩, ⟨PyData.keyHash P SS64, .str SS64 977, .ref 357⟩, ⟨PyData.keyHash P SS59, .str SS59 986, .int 5 1021⟩, ⟨PyData.keyHash P SS47, .str SS47 987, .str SS103 984⟩] 7, #[]⟩
def o357 : Obj := ⟨.type TS21, none, .seq #[.ref 370, .ref 389] 2, #[]⟩
def o358 : Obj := ⟨.type TS21, none, .seq #[.str SS79 979, .str SS104 980, .str SS79 981, .str SS79 982, .str SS79 983, .str SS103 984] 0, #[]⟩
def o360 : Obj := ⟨.type TS23, none, .fields #[.none, .bool false, .ref 359, .int 6 0, .none, .str SS103 984], #[]⟩
def o361 : Obj := ⟨.type TS2, none, .seq #[.int 0 985, .str SS79 979] 0, #[]⟩
def o364 : Obj := gf 363
def o365 : Obj := ⟨.type TS2, none, .seq #[.int 1 989, .str SS104 980] 0, #[]⟩
def o368 : Obj := gf 367
def o369 (P : Params) : Obj := ⟨.type TS0, none, .dict #[⟨PyData.keyHash P SS47, .str SS47 1000, .str SS104 980⟩, ⟨PyData.keyHash P SS57, .str SS57 1002, .str SS102 972⟩, ⟨PyData.keyHash P SS58, .str SS58 1004, .int 19 271⟩, ⟨PyData.keyHash P SS59, .str SS59 1006, .int 1 989⟩, ⟨PyData.keyHash P SS60, .str SS60 1008, .int 0 386⟩] 5, #[]⟩
noncomputable def o370 : Obj := ⟨.ref 127, some (369), .plain, #[]⟩
def o371 (P : Params) : Obj := ⟨.type TS4, none, .dict #[⟨PyData.keyHash P SS40, .str SS40 993, .ref 370⟩, ⟨PyData.keyHash P SS47, .str SS47 994, .str SS104 980⟩, ⟨PyData.keyHash P SS57, .str SS57 995, .str SS102 972⟩, ⟨PyData.keyHash P SS58, .str SS58 996, .int 19 271⟩, ⟨PyData.keyHash P SS59, .str SS59 997, .int 1 989⟩, ⟨PyData.keyHash P SS60, .str SS60 998, .int 0 386⟩] 6, #[]⟩
def o372 : Obj := ⟨.type TS2, none, .seq #[.int 2 1009, .str SS79 981] 0, #[]⟩
def o375 : Obj := gf 374
def o376 : Obj := ⟨.type TS2, none, .seq #[.int 3 1013, .str SS79 982] 0, #[]⟩
def o379 : Obj := gf 378
def o380 : Obj := ⟨.type TS2, none, .seq #[.int 4 1017, .str SS79 983] 0, #[]⟩
def o383 : Obj := gf 382
def o384 : Obj := ⟨.type TS2, none, .seq #[.int 5 1021, .str SS103 984] 0, #[]⟩
def o387 : Obj := gf 386
def o388 (P : Params) : Obj := ⟨.type TS0, none, .dict #[⟨PyData.keyHash P SS47, .str SS47 1032, .str SS103 984⟩, ⟨PyData.keyHash P SS57, .str SS57 1034, .str SS102 972⟩, ⟨PyData.keyHash P SS58, .str SS58 1036, .int 19 271⟩, ⟨PyData.keyHash P SS59, .str SS59 1038, .int 5 1021⟩, ⟨PyData.keyHash P SS60, .str SS60 1040, .int 0 386⟩] 5, #[]⟩
noncomputable def o389 : Obj := ⟨.ref 127, some (388), .plain, #[]⟩
def o390 (P : Params) : Obj := ⟨.type TS4, none, .dict #[⟨PyData.keyHash P SS40, .str SS40 1025, .ref 389⟩, ⟨PyData.keyHash P SS47, .str SS47 1026, .str SS103 984⟩, ⟨PyData.keyHash P SS57, .str SS57 1027, .str SS102 972⟩, ⟨PyData.keyHash P SS58, .str SS58 1028, .int 19 271⟩, ⟨PyData.keyHash P SS59, .str SS59 1029, .int 5 1021⟩, ⟨PyData.keyHash P SS60, .str SS60 1030, .int 0 386⟩] 6, #[]⟩
def o392 : Obj := gf 391
def o167c : Obj := ⟨.type TS21, none, .seq #[.ref 156, .ref 159, .ref 162, .ref 165, .ref 178, .ref 185, .ref 200, .ref 207, .ref 214, .ref 221, .ref 235, .ref 242, .ref 249, .ref 260, .ref 267, .ref 281, .ref 288, .ref 295, .ref 309, .ref 320, .ref 327, .ref 334, .ref 345, .ref 352, .ref 370, .ref 389, .ref 423, .ref 437, .ref 444, .ref 451, .ref 458, .ref 465, .ref 472, .ref 479, .ref 486] 7, #[]⟩
def o393 (P : Params) : Obj := ⟨.type TS4, none, .dict #[⟨PyData.keyHash P SS63, .str SS63 1044, .str SS105 1041⟩, ⟨PyData.keyHash P SS57, .str SS57 1045, .str SS102 1042⟩, ⟨PyData.keyHash P SS58, .str SS58 1046, .int 19 271⟩, ⟨PyData.keyHash P SS60, .str SS60 1047, .int 32 1043⟩, ⟨PyData.keyHash P SS64, .str SS64 1048, .ref 394⟩, ⟨PyData.keyHash P SS59, .str SS59 1057, .int 5 1076⟩, ⟨PyData.keyHash P SS47, .str SS47 1058, .str SS106 1055⟩] 7, #[]⟩
def o394 : Obj := ⟨.type TS21, none, .seq #[.ref 423] 1, #[]⟩
def o395 : Obj := ⟨.type TS21, none, .seq #[.str SS79 1050, .str SS79 1051, .str SS79 1052, .str SS79 1053, .str SS79 1054, .str SS106 1055] 0, #[]⟩
def o397 : Obj := ⟨.type TS23, none, .fields #[.none, .bool false, .ref 396, .int 6 0, .none, .str SS106 1055], #[]⟩
def o398 : Obj := ⟨.type TS2, none, .seq #[.int 0 1056, .str SS79 1050] 0, #[]⟩
def o401 : Obj := gf 400
def o402 : Obj := ⟨.type TS2, none, .seq #[.int 1 1060, .str SS79 1051] 0, #[]⟩
def o405 : Obj := gf 404
def o406 : Obj := ⟨.type TS2, none, .seq #[.int 2 1064, .str SS79 1052] 0, #[]⟩
def o409 : Obj := gf 408
def o410 : Obj := ⟨.type TS2, none, .seq #[.int 3 1068, .str SS79 1053] 0, #[]⟩
def o413 : Obj := gf 412
def o414 : Obj := ⟨.type TS2, none, .seq #[.int 4 1072, .str SS79 1054] 0, #[]⟩
def o417 : Obj := gf 416
def o418 : Obj := ⟨.type TS2, none, .seq #[.int 5 1076, .str SS106 1055] 0, #[]⟩
def o421 : Obj := gf 420
def o422 (P : Params) : Obj := ⟨.type TS0, none, .dict #[⟨PyData.keyHash P SS47, .str SS47 1087, .str SS106 1055⟩, ⟨PyData.keyHash P SS57, .str SS57 1089, .str SS102 1042⟩, ⟨PyData.keyHash P SS58, .str SS58 1091, .int 19 271⟩, ⟨PyData.keyHash P SS59, .str SS59 1093, .int 5 1076⟩, ⟨PyData.keyHash P SS60, .str SS60 1095, .int 32 1043⟩] 5, #[]⟩
noncomputable def o423 : Obj := ⟨.ref 127, some (422), .plain, #[]⟩
def o424 (P : Params) : Obj := ⟨.type TS4, none, .dict #[⟨PyData.keyHash P SS40, .str SS40 1080, .ref 423⟩, ⟨PyData.keyHash P SS47, .str SS47 1081, .str SS106 1055⟩, ⟨PyData.keyHash P SS57, .str SS57 1082, .str SS102 1042⟩, ⟨PyData.keyHash P SS58, .str SS58 1083, .int 19 271⟩, ⟨PyData.keyHash P SS59, .str SS59 1084, .int 5 1076⟩, ⟨PyData.keyHash P SS60, .str SS60 1085, .int 32 1043⟩] 6, #[]⟩
def o426 : Obj := gf 425
def o427 (P : Params) : Obj := ⟨.type TS4, none, .dict #[⟨PyData.keyHash P SS63, .str SS63 1098, .str SS107 1096⟩, ⟨PyData.keyHash P SS57, .str SS57 1099, .str SS108 1097⟩, ⟨PyData.keyHash P SS58, .str SS58 1100, .int 51 277⟩, ⟨PyData.keyHash P SS60, .str SS60 1101, .int 0 386⟩, ⟨PyData.keyHash P SS64, .str SS64 1102, .ref 428⟩, ⟨PyData.keyHash P SS59, .str SS59 1113, .int 7 1252⟩, ⟨PyData.keyHash P SS47, .str SS47 1114, .str SS109 1111⟩] 7, #[]⟩
def o428 : Obj := ⟨.type TS21, none, .seq #[.ref 437, .ref 444, .ref 451, .ref 458, .ref 465, .ref 472, .ref 479, .ref 486] 8, #[]⟩
def o429 : Obj := ⟨.type TS21, none, .seq #[.str SS110 1104, .str SS111 1105, .str SS112 1106, .str SS113 1107, .str SS114 1108, .str SS115 1109, .str SS116 1110, .str SS109 1111] 0, #[]⟩
def o431 : Obj := ⟨.type TS23, none, .fields #[.none, .bool false, .ref 430, .int 8 0, .none, .str SS109 1111], #[]⟩
def o432 : Obj := ⟨.type TS2, none, .seq #[.int 0 1112, .str SS110 1104] 0, #[]⟩
def o435 : Obj := gf 434
def o436 (P : Params) : Obj := ⟨.type TS0, none, .dict #[⟨PyData.keyHash P SS47, .str SS47 1123, .str SS110 1104⟩, ⟨PyData.keyHash P SS57, .str SS57 1125, .str SS108 1097⟩, ⟨PyData.keyHash P SS58, .str SS58 1127, .int 51 277⟩, ⟨PyData.keyHash P SS59, .str SS59 1129, .int 0 1112⟩, ⟨PyData.keyHash P SS60, .str SS60 1131, .int 0 386⟩] 5, #[]⟩
noncomputable def o437 : Obj := ⟨.ref 127, some (436), .plain, #[]⟩
def o438 (P : Params) : Obj := ⟨.type TS4, none, .dict #[⟨PyData.keyHash P SS40, .str SS40 1116, .ref 437⟩, ⟨PyData.keyHash P SS47, .str SS47 1117, .str SS110 1104⟩, ⟨PyData.keyHash P SS57, .str SS57 1118, .str SS108 1097⟩, ⟨PyData.keyHash P SS58, .str SS58 1119, .int 51 277⟩, ⟨PyData.keyHash P SS59, .str SS59 1120, .int 0 1112⟩, ⟨PyData.keyHash P SS60, .str SS60 1121, .int 0 386⟩] 6, #[]⟩
def o439 : Obj := ⟨.type TS2, none, .seq #[.int 1 1132, .str SS111 1105] 0, #[]⟩
def o442 : Obj := gf 441
def o443 (P : Params) : Obj := ⟨.type TS0, none, .dict #[⟨PyData.keyHash P SS47, .str SS47 1143, .str SS111 1105⟩, ⟨PyData.keyHash P SS57, .str SS57 1145, .str SS108 1097⟩, ⟨PyData.keyHash P SS58, .str SS58 1147, .int 51 277⟩, ⟨PyData.keyHash P SS59, .str SS59 1149, .int 1 1132⟩, ⟨PyData.keyHash P SS60, .str SS60 1151, .int 0 386⟩] 5, #[]⟩
noncomputable def o444 : Obj := ⟨.ref 127, some (443), .plain, #[]⟩
def o445 (P : Params) : Obj := ⟨.type TS4, none, .dict #[⟨PyData.keyHash P SS40, .str SS40 1136, .ref 444⟩, ⟨PyData.keyHash P SS47, .str SS47 1137, .str SS111 1105⟩, ⟨PyData.keyHash P SS57, .str SS57 1138, .str SS108 1097⟩, ⟨PyData.keyHash P SS58, .str SS58 1139, .int 51 277⟩, ⟨PyData.keyHash P SS59, .str SS59 1140, .int 1 1132⟩, ⟨PyData.keyHash P SS60, .str SS60 1141, .int 0 386⟩] 6, #[]⟩
def o446 : Obj := ⟨.type TS2, none, .seq #[.int 2 1152, .str SS112 1106] 0, #[]⟩
def o449 : Obj := gf 448
def o450 (P : Params) : Obj := ⟨.type TS0, none, .dict #[⟨PyData.keyHash P SS47, .str SS47 1163, .str SS112 1106⟩, ⟨PyData.keyHash P SS57, .str SS57 1165, .str SS108 1097⟩, ⟨PyData.keyHash P SS58, .str SS58 1167, .int 51 277⟩, ⟨PyData.keyHash P SS59, .str SS59 1169, .int 2 1152⟩, ⟨PyData.keyHash P SS60, .str SS60 1171, .int 0 386⟩] 5, #[]⟩
noncomputable def o451 : Obj := ⟨.ref 127, some (450), .plain, #[]⟩
def o452 (P : Params) : Obj := ⟨.type TS4, none, .dict #[⟨PyData.keyHash P SS40, .str SS40 1156, .ref 451⟩, ⟨PyData.keyHash P SS47, .str SS47 1157, .str SS112 1106⟩, ⟨PyData.keyHash P SS57, .str SS57 1158, .str SS108 1097⟩, ⟨PyData.keyHash P SS58, .str SS58 1159, .int 51 277⟩, ⟨PyData.keyHash P SS59, .str SS59 1160, .int 2 1152⟩, ⟨PyData.keyHash P SS60, .str SS60 1161, .int 0 386⟩] 6, #[]⟩
def o453 : Obj := ⟨.type TS2, none, .seq #[.int 3 1172, .str SS113 1107] 0, #[]⟩
def o456 : Obj := gf 455
def o457 (P : Params) : Obj := ⟨.type TS0, none, .dict #[⟨PyData.keyHash P SS47, .str SS47 1183, .str SS113 1107⟩, ⟨PyData.keyHash P SS57, .str SS57 1185, .str SS108 1097⟩, ⟨PyData.keyHash P SS58, .str SS58 1187, .int 51 277⟩, ⟨PyData.keyHash P SS59, .str SS59 1189, .int 3 1172⟩, ⟨PyData.keyHash P SS60, .str SS60 1191, .int 0 386⟩] 5, #[]⟩
noncomputable def o458 : Obj := ⟨.ref 127, some (457), .plain, #[]⟩
def o459 (P : Params) : Obj := ⟨.type TS4, none, .dict #[⟨PyData.keyHash P SS40, .str SS40 1176, .ref 458⟩, ⟨PyData.keyHash P SS47, .str SS47 1177, .str SS113 1107⟩, ⟨PyData.keyHash P SS57, .str SS57 1178, .str SS108 1097⟩, ⟨PyData.keyHash P SS58, .str SS58 1179, .int 51 277⟩, ⟨PyData.keyHash P SS59, .str SS59 1180, .int 3 1172⟩, ⟨PyData.keyHash P SS60, .str SS60 1181, .int 0 386⟩] 6, #[]⟩
def o460 : Obj := ⟨.type TS2, none, .seq #[.int 4 1192, .str SS114 1108] 0, #[]⟩
def o463 : Obj := gf 462
def o464 (P : Params) : Obj := ⟨.type TS0, none, .dict #[⟨PyData.keyHash P SS47, .str SS47 1203, .str SS114 1108⟩, ⟨PyData.keyHash P SS57, .str SS57 1205, .str SS108 1097⟩, ⟨PyData.keyHash P SS58, .str SS58 1207, .int 51 277⟩, ⟨PyData.keyHash P SS59, .str SS59 1209, .int 4 1192⟩, ⟨PyData.keyHash P SS60, .str SS60 1211, .int 0 386⟩] 5, #[]⟩
noncomputable def o465 : Obj := ⟨.ref 127, some (464), .plain, #[]⟩
def o466 (P : Params) : Obj := ⟨.type TS4, none, .dict #[⟨PyData.keyHash P SS40, .str SS40 1196, .ref 465⟩, ⟨PyData.keyHash P SS47, .str SS47 1197, .str SS114 1108⟩, ⟨PyData.keyHash P SS57, .str SS57 1198, .str SS108 1097⟩, ⟨PyData.keyHash P SS58, .str SS58 1199, .int 51 277⟩, ⟨PyData.keyHash P SS59, .str SS59 1200, .int 4 1192⟩, ⟨PyData.keyHash P SS60, .str SS60 1201, .int 0 386⟩] 6, #[]⟩
def o467 : Obj := ⟨.type TS2, none, .seq #[.int 5 1212, .str SS115 1109] 0, #[]⟩
def o470 : Obj := gf 469
def o471 (P : Params) : Obj := ⟨.type TS0, none, .dict #[⟨PyData.keyHash P SS47, .str SS47 1223, .str SS115 1109⟩, ⟨PyData.keyHash P SS57, .str SS57 1225, .str SS108 1097⟩, ⟨PyData.keyHash P SS58, .str SS58 1227, .int 51 277⟩, ⟨PyData.keyHash P SS59, .str SS59 1229, .int 5 1212⟩, ⟨PyData.keyHash P SS60, .str SS60 1231, .int 0 386⟩] 5, #[]⟩
noncomputable def o472 : Obj := ⟨.ref 127, some (471), .plain, #[]⟩
def o473 (P : Params) : Obj := ⟨.type TS4, none, .dict #[⟨PyData.keyHash P SS40, .str SS40 1216, .ref 472⟩, ⟨PyData.keyHash P SS47, .str SS47 1217, .str SS115 1109⟩, ⟨PyData.keyHash P SS57, .str SS57 1218, .str SS108 1097⟩, ⟨PyData.keyHash P SS58, .str SS58 1219, .int 51 277⟩, ⟨PyData.keyHash P SS59, .str SS59 1220, .int 5 1212⟩, ⟨PyData.keyHash P SS60, .str SS60 1221, .int 0 386⟩] 6, #[]⟩
def o474 : Obj := ⟨.type TS2, none, .seq #[.int 6 1232, .str SS116 1110] 0, #[]⟩
def o477 : Obj := gf 476
def o478 (P : Params) : Obj := ⟨.type TS0, none, .dict #[⟨PyData.keyHash P SS47, .str SS47 1243, .str SS116 1110⟩, ⟨PyData.keyHash P SS57, .str SS57 1245, .str SS108 1097⟩, ⟨PyData.keyHash P SS58, .str SS58 1247, .int 51 277⟩, ⟨PyData.keyHash P SS59, .str SS59 1249, .int 6 1232⟩, ⟨PyData.keyHash P SS60, .str SS60 1251, .int 0 386⟩] 5, #[]⟩
noncomputable def o479 : Obj := ⟨.ref 127, some (478), .plain, #[]⟩
def o480 (P : Params) : Obj := ⟨.type TS4, none, .dict #[⟨PyData.keyHash P SS40, .str SS40 1236, .ref 479⟩, ⟨PyData.keyHash P SS47, .str SS47 1237, .str SS116 1110⟩, ⟨PyData.keyHash P SS57, .str SS57 1238, .str SS108 1097⟩, ⟨PyData.keyHash P SS58, .str SS58 1239, .int 51 277⟩, ⟨PyData.keyHash P SS59, .str SS59 1240, .int 6 1232⟩, ⟨PyData.keyHash P SS60, .str SS60 1241, .int 0 386⟩] 6, #[]⟩
def o481 : Obj := ⟨.type TS2, none, .seq #[.int 7 1252, .str SS109 1111] 0, #[]⟩
def o484 : Obj := gf 483
def o485 (P : Params) : Obj := ⟨.type TS0, none, .dict #[⟨PyData.keyHash P SS47, .str SS47 1263, .str SS109 1111⟩, ⟨PyData.keyHash P SS57, .str SS57 1265, .str SS108 1097⟩, ⟨PyData.keyHash P SS58, .str SS58 1267, .int 51 277⟩, ⟨PyData.keyHash P SS59, .str SS59 1269, .int 7 1252⟩, ⟨PyData.keyHash P SS60, .str SS60 1271, .int 0 386⟩] 5, #[]⟩
noncomputable def o486 : Obj := ⟨.ref 127, some (485), .plain, #[]⟩
def o487 (P : Params) : Obj := ⟨.type TS4, none, .dict #[⟨PyData.keyHash P SS40, .str SS40 1256, .ref 486⟩, ⟨PyData.keyHash P SS47, .str SS47 1257, .str SS109 1111⟩, ⟨PyData.keyHash P SS57, .str SS57 1258, .str SS108 1097⟩, ⟨PyData.keyHash P SS58, .str SS58 1259, .int 51 277⟩, ⟨PyData.keyHash P SS59, .str SS59 1260, .int 7 1252⟩, ⟨PyData.keyHash P SS60, .str SS60 1261, .int 0 386⟩] 6, #[]⟩
def o489 : Obj := gf 488
def o167d : Obj := ⟨.type TS21, none, .seq #[.ref 156, .ref 159, .ref 162, .ref 165, .ref 178, .ref 185, .ref 200, .ref 207, .ref 214, .ref 221, .ref 235, .ref 242, .ref 249, .ref 260, .ref 267, .ref 281, .ref 288, .ref 295, .ref 309, .ref 320, .ref 327, .ref 334, .ref 345, .ref 352, .ref 370, .ref 389, .ref 423, .ref 437, .ref 444, .ref 451, .ref 458, .ref 465, .ref 472, .ref 479, .ref 486, .ref 500, .ref 523, .ref 537, .ref 544, .ref 551, .ref 558, .ref 565, .ref 572, .ref 579, .ref 586] 9, #[]⟩
def o490 (P : Params) : Obj := ⟨.type TS4, none, .dict #[⟨PyData.keyHash P SS63, .str SS63 1275, .str SS117 1272⟩, ⟨PyData.keyHash P SS57, .str SS57 1276, .str SS108 1273⟩, ⟨PyData.keyHash P SS58, .str SS58 1277, .int 51 277⟩, ⟨PyData.keyHash P SS60, .str SS60 1278, .int 32 1274⟩, ⟨PyData.keyHash P SS64, .str SS64 1279, .ref 491⟩, ⟨PyData.keyHash P SS59, .str SS59 1288, .int 5 1323⟩, ⟨PyData.keyHash P SS47, .str SS47 1289, .str SS118 1286⟩] 7, #[]⟩
def o491 : Obj := ⟨.type TS21, none, .seq #[.ref 500, .ref 523] 2, #[]⟩
def o492 : Obj := ⟨.type TS21, none, .seq #[.str SS119 1281, .str SS79 1282, .str SS79 1283, .str SS79 1284, .str SS79 1285, .str SS118 1286] 0, #[]⟩
def o494 : Obj := ⟨.type TS23, none, .fields #[.none, .bool false, .ref 493, .int 6 0, .none, .str SS118 1286], #[]⟩
def o495 : Obj := ⟨.type TS2, none, .seq #[.int 0 1287, .str SS119 1281] 0, #[]⟩
def o498 : Obj := gf 497
def o499 (P : Params) : Obj := ⟨.type TS0, none, .dict #[⟨PyData.keyHash P SS47, .str SS47 1298, .str SS119 1281⟩, ⟨PyData.keyHash P SS57, .str SS57 1300, .str SS108 1273⟩, ⟨PyData.keyHash P SS58, .str SS58 1302, .int 51 277⟩, ⟨PyData.keyHash P SS59, .str SS59 1304, .int 0 1287⟩, ⟨PyData.keyHash P SS60, .str SS60 1306, .int 32 1274⟩] 5, #[]⟩
noncomputable def o500 : Obj := ⟨.ref 127, some (499), .plain, #[]⟩
def o501 (P : Params) : Obj := ⟨.type TS4, none, .dict #[⟨PyData.keyHash P SS40, .str SS40 1291, .ref 500⟩, ⟨PyData.keyHash P SS47, .str SS47 1292, .str SS119 1281⟩, ⟨PyData.keyHash P SS57, .str SS57 1293, .str SS108 1273⟩, ⟨PyData.keyHash P SS58, .str SS58 1294, .int 51 277⟩, ⟨PyData.keyHash P SS59, .str SS59 1295, .int 0 1287⟩, ⟨PyData.keyHash P SS60, .str SS60 1296, .int 32 1274⟩] 6, #[]⟩
def o502 : Obj := ⟨.type TS2, none, .seq #[.int 1 1307, .str SS79 1282] 0, #[]⟩
def o505 : Obj := gf 504
def o506 : Obj := ⟨.type TS2, none, .seq #[.int 2 1311, .str SS79 1283] 0, #[]⟩
def o509 : Obj := gf 508
def o510 : Obj := ⟨.type TS2, none, .seq #[.int 3 1315, .str SS79 1284] 0, #[]⟩
def o513 : Obj := gf 512
def o514 : Obj := ⟨.type TS2, none, .seq #[.int 4 1319, .str SS79 1285] 0, #[]⟩
def o517 : Obj := gf 516
def o518 : Obj := ⟨.type TS2, none, .seq #[.int 5 1323, .str SS118 1286] 0, #[]⟩
def o521 : Obj := gf 520
def o522 (P : Params) : Obj := ⟨.type TS0, none, .dict #[⟨PyData.keyHash P SS47, .str SS47 1334, .str SS118 1286⟩, ⟨PyData.keyHash P SS57, .str SS57 1336, .str SS108 1273⟩, ⟨PyData.keyHash P SS58, .str SS58 1338, .int 51 277⟩, ⟨PyData.keyHash P SS59, .str SS59 1340, .int 5 1323⟩, ⟨PyData.keyHash P SS60, .str SS60 1342, .int 32 1274⟩] 5, #[]⟩
noncomputable def o523 : Obj := ⟨.ref 127, some (522), .plain, #[]⟩
def o524 (P : Params) : Obj := ⟨.type TS4, none, .dict #[⟨PyData.keyHash P SS40, .str SS40 1327, .ref 523⟩, ⟨PyData.keyHash P SS47, .str SS47 1328, .str SS118 1286⟩, ⟨PyData.keyHash P SS57, .str SS57 1329, .str SS108 1273⟩, ⟨PyData.keyHash P SS58, .str SS58 1330, .int 51 277⟩, ⟨PyData.keyHash P SS59, .str SS59 1331, .int 5 1323⟩, ⟨PyData.keyHash P SS60, .str SS60 1332, .int 32 1274⟩] 6, #[]⟩
def o526 : Obj := gf 525
def o527 (P : Params) : Obj := ⟨.type TS4, none, .dict #[⟨PyData.keyHash P SS63, .str SS63 1346, .str SS120 1343⟩, ⟨PyData.keyHash P SS57, .str SS57 1347, .str SS108 1344⟩, ⟨PyData.keyHash P SS58, .str SS58 1348, .int 51 277⟩, ⟨PyData.keyHash P SS60, .str SS60 1349, .int 1 1345⟩, ⟨PyData.keyHash P SS64, .str SS64 1350, .ref 528⟩, ⟨PyData.keyHash P SS59, .str SS59 1361, .int 7 1500⟩, ⟨PyData.keyHash P SS47, .str SS47 1362, .str SS121 1359⟩] 7, #[]⟩
def o528 : Obj := ⟨.type TS21, none, .seq #[.ref 537, .ref 544, .ref 551, .ref 558, .ref 565, .ref 572, .ref 579, .ref 586] 8, #[]⟩
def o529 : Obj := ⟨.type TS21, none, .seq #[.str SS122 1352, .str SS123 1353, .str SS124 1354, .str SS125 1355, .str SS126 1356, .str SS127 1357, .str SS128 1358, .str SS121 1359] 0, #[]⟩
def o531 : Obj := ⟨.type TS23, none, .fields #[.none, .bool false, .ref 530, .int 8 0, .none, .str SS121 1359], #[]⟩
def o532 : Obj := ⟨.type TS2, none, .seq #[.int 0 1360, .str SS122 1352] 0, #[]⟩
def o535 : Obj := gf 534
def o536 (P : Params) : Obj := ⟨.type TS0, none, .dict #[⟨PyData.keyHash P SS47, .str SS47 1371, .str SS122 1352⟩, ⟨PyData.keyHash P SS57, .str SS57 1373, .str SS108 1344⟩, ⟨PyData.keyHash P SS58, .str SS58 1375, .int 51 277⟩, ⟨PyData.keyHash P SS59, .str SS59 1377, .int 0 1360⟩, ⟨PyData.keyHash P SS60, .str SS60 1379, .int 1 1345⟩] 5, #[]⟩
noncomputable def o537 : Obj := ⟨.ref 127, some (536), .plain, #[]⟩
def o538 (P : Params) : Obj := ⟨.type TS4, none, .dict #[⟨PyData.keyHash P SS40, .str SS40 1364, .ref 537⟩, ⟨PyData.keyHash P SS47, .str SS47 1365, .str SS122 1352⟩, ⟨PyData.keyHash P SS57, .str SS57 1366, .str SS108 1344⟩, ⟨PyData.keyHash P SS58, .str SS58 1367, .int 51 277⟩, ⟨PyData.keyHash P SS59, .str SS59 1368, .int 0 1360⟩, ⟨PyData.keyHash P SS60, .str SS60 1369, .int 1 1345⟩] 6, #[]⟩
def o539 : Obj := ⟨.type TS2, none, .seq #[.int 1 1380, .str SS123 1353] 0, #[]⟩
def o542 : Obj := gf 541
def o543 (P : Params) : Obj := ⟨.type TS0, none, .dict #[⟨PyData.keyHash P SS47, .str SS47 1391, .str SS123 1353⟩, ⟨PyData.keyHash P SS57, .str SS57 1393, .str SS108 1344⟩, ⟨PyData.keyHash P SS58, .str SS58 1395, .int 51 277⟩, ⟨PyData.keyHash P SS59, .str SS59 1397, .int 1 1380⟩, ⟨PyData.keyHash P SS60, .str SS60 1399, .int 1 1345⟩] 5, #[]⟩
noncomputable def o544 : Obj := ⟨.ref 127, some (543), .plain, #[]⟩
def o545 (P : Params) : Obj := ⟨.type TS4, none, .dict #[⟨PyData.keyHash P SS40, .str SS40 1384, .ref 544⟩, ⟨PyData.keyHash P SS47, .str SS47 1385, .str SS123 1353⟩, ⟨PyData.keyHash P SS57, .str SS57 1386, .str SS108 1344⟩, ⟨PyData.keyHash P SS58, .str SS58 1387, .int 51 277⟩, ⟨PyData.keyHash P SS59, .str SS59 1388, .int 1 1380⟩, ⟨PyData.keyHash P SS60, .str SS60 1389, .int 1 1345⟩] 6, #[]⟩
def o546 : Obj := ⟨.type TS2, none, .seq #[.int 2 1400, .str SS124 1354] 0, #[]⟩
def o549 : Obj := gf 548
def o550 (P : Params) : Obj := ⟨.type TS0, none, .dict #[⟨PyData.keyHash P SS47, .str SS47 1411, .str SS124 1354⟩, ⟨PyData.keyHash P SS57, .str SS57 1413, .str SS108 1344⟩, ⟨PyData.keyHash P SS58, .str SS58 1415, .int 51 277⟩, ⟨PyData.keyHash P SS59, .str SS59 1417, .int 2 1400⟩, ⟨PyData.keyHash P SS60, .str SS60 1419, .int 1 1345⟩] 5, #[]⟩
noncomputable def o551 : Obj := ⟨.ref 127, some (550), .plain, #[]⟩
def o552 (P : Params) : Obj := ⟨.type TS4, none, .dict #[⟨PyData.keyHash P SS40, .str SS40 1404, .ref 551⟩, ⟨PyData.keyHash P SS47, .str SS47 1405, .str SS124 1354⟩, ⟨PyData.keyHash P SS57, .str SS57 1406, .str SS108 1344⟩, ⟨PyData.keyHash P SS58, .str SS58 1407, .int 51 277⟩, ⟨PyData.keyHash P SS59, .str SS59 1408, .int 2 1400⟩, ⟨PyData.keyHash P SS60, .str SS60 1409, .int 1 1345⟩] 6, #[]⟩
def o553 : Obj := ⟨.type TS2, none, .seq #[.int 3 1420, .str SS125 1355] 0, #[]⟩
def o556 : Obj := gf 555
def o557 (P : Params) : Obj := ⟨.type TS0, none, .dict #[⟨PyData.keyHash P SS47, .str SS47 1431, .str SS125 1355⟩, ⟨PyData.keyHash P SS57, .str SS57 1433, .str SS108 1344⟩, ⟨PyData.keyHash P SS58, .str SS58 1435, .int 51 277⟩, ⟨PyData.keyHash P SS59, .str SS59 1437, .int 3 1420⟩, ⟨PyData.keyHash P SS60, .str SS60 1439, .int 1 1345⟩] 5, #[]⟩
noncomputable def o558 : Obj := ⟨.ref 127, some (557), .plain, #[]⟩
def o559 (P : Params) : Obj := ⟨.type TS4, none, .dict #[⟨PyData.keyHash P SS40, .str SS40 1424, .ref 558⟩, ⟨PyData.keyHash P SS47, .str SS47 1425, .str SS125 1355⟩, ⟨PyData.keyHash P SS57, .str SS57 1426, .str SS108 1344⟩, ⟨PyData.keyHash P SS58, .str SS58 1427, .int 51 277⟩, ⟨PyData.keyHash P SS59, .str SS59 1428, .int 3 1420⟩, ⟨PyData.keyHash P SS60, .str SS60 1429, .int 1 1345⟩] 6, #[]⟩
def o560 : Obj := ⟨.type TS2, none, .seq #[.int 4 1440, .str SS126 1356] 0, #[]⟩
def o563 : Obj := gf 562
def o564 (P : Params) : Obj := ⟨.type TS0, none, .dict #[⟨PyData.keyHash P SS47, .str SS47 1451, .str SS126 1356⟩, ⟨PyData.keyHash P SS57, .str SS57 1453, .str SS108 1344⟩, ⟨PyData.keyHash P SS58, .str SS58 1455, .int 51 277⟩, ⟨PyData.keyHash P SS59, .str SS59 1457, .int 4 1440⟩, ⟨PyData.keyHash P SS60, .str SS60 1459, .int 1 1345⟩] 5, #[]⟩
noncomputable def o565 : Obj := ⟨.ref 127, some (564), .plain, #[]⟩
def o566 (P : Params) : Obj := ⟨.type TS4, none, .dict #[⟨PyData.keyHash P SS40, .str SS40 1444, .ref 565⟩, ⟨PyData.keyHash P SS47, .str SS47 1445, .str SS126 1356⟩, ⟨PyData.keyHash P SS57, .str SS57 1446, .str SS108 1344⟩, ⟨PyData.keyHash P SS58, .str SS58 1447, .int 51 277⟩, ⟨PyData.keyHash P SS59, .str SS59 1448, .int 4 1440⟩, ⟨PyData.keyHash P SS60, .str SS60 1449, .int 1 1345⟩] 6, #[]⟩
def o567 : Obj := ⟨.type TS2, none, .seq #[.int 5 1460, .str SS127 1357] 0, #[]⟩
def o570 : Obj := gf 569
def o571 (P : Params) : Obj := ⟨.type TS0, none, .dict #[⟨PyData.keyHash P SS47, .str SS47 1471, .str SS127 1357⟩, ⟨PyData.keyHash P SS57, .str SS57 1473, .str SS108 1344⟩, ⟨PyData.keyHash P SS58, .str SS58 1475, .int 51 277⟩, ⟨PyData.keyHash P SS59, .str SS59 1477, .int 5 1460⟩, ⟨PyData.keyHash P SS60, .str SS60 1479, .int 1 1345⟩] 5, #[]⟩
noncomputable def o572 : Obj := ⟨.ref 127, some (571), .plain, #[]⟩
def o573 (P : Params) : Obj := ⟨.type TS4, none, .dict #[⟨PyData.keyHash P SS40, .str SS40 1464, .ref 572⟩, ⟨PyData.keyHash P SS47, .str SS47 1465, .str SS127 1357⟩, ⟨PyData.keyHash P SS57, .str SS57 1466, .str SS108 1344⟩, ⟨PyData.keyHash P SS58, .str SS58 1467, .int 51 277⟩, ⟨PyData.keyHash P SS59, .str SS59 1468, .int 5 1460⟩, ⟨PyData.keyHash P SS60, .str SS60 1469, .int 1 1345⟩] 6, #[]⟩
def o574 : Obj := ⟨.type TS2, none, .seq #[.int 6 1480, .str SS128 1358] 0, #[]⟩
def o577 : Obj := gf 576
def o578 (P : Params) : Obj := ⟨.type TS0, none, .dict #[⟨PyData.keyHash P SS47, .str SS47 1491, .str SS128 1358⟩, ⟨PyData.keyHash P SS57, .str SS57 1493, .str SS108 1344⟩, ⟨PyData.keyHash P SS58, .str SS58 1495, .int 51 277⟩, ⟨PyData.keyHash P SS59, .str SS59 1497, .int 6 1480⟩, ⟨PyData.keyHash P SS60, .str SS60 1499, .int 1 1345⟩] 5, #[]⟩
noncomputable def o579 : Obj := ⟨.ref 127, some (578), .plain, #[]⟩
def o580 (P : Params) : Obj := ⟨.type TS4, none, .dict #[⟨PyData.keyHash P SS40, .str SS40 1484, .ref 579⟩, ⟨PyData.keyHash P SS47, .str SS47 1485, .str SS128 1358⟩, ⟨PyData.keyHash P SS57, .str SS57 1486, .str SS108 1344⟩, ⟨PyData.keyHash P SS58, .str SS58 1487, .int 51 277⟩, ⟨PyData.keyHash P SS59, .str SS59 1488, .int 6 1480⟩, ⟨PyData.keyHash P SS60, .str SS60 1489, .int 1 1345⟩] 6, #[]⟩
def o581 : Obj := ⟨.type TS2, none, .seq #[.int 7 1500, .str SS121 1359] 0, #[]⟩
def o584 : Obj := gf 583
def o585 (P : Params) : Obj := ⟨.type TS0, none, .dict #[⟨PyData.keyHash P SS47, .str SS47 1511, .str SS121 1359⟩, ⟨PyData.keyHash P SS57, .str SS57 1513, .str SS108 1344⟩, ⟨PyData.keyHash P SS58, .str SS58 1515, .int 51 277⟩, ⟨PyData.keyHash P SS59, .str SS59 1517, .int 7 1500⟩, ⟨PyData.keyHash P SS60, .str SS60 1519, .int 1 1345⟩] 5, #[]⟩
noncomputable def o586 : Obj := ⟨.ref 127, some (585), .plain, #[]⟩
def o587 (P : Params) : Obj := ⟨.type TS4, none, .dict #[⟨PyData.keyHash P SS40, .str SS40 1504, .ref 586⟩, ⟨PyData.keyHash P SS47, .str SS47 1505, .str SS121 1359⟩, ⟨PyData.keyHash P SS57, .str SS57 1506, .str SS108 1344⟩, ⟨PyData.keyHash P SS58, .str SS58 1507, .int 51 277⟩, ⟨PyData.keyHash P SS59, .str SS59 1508, .int 7 1500⟩, ⟨PyData.keyHash P SS60, .str SS60 1509, .int 1 1345⟩] 6, #[]⟩
def o589 : Obj := gf 588
def o167e : Obj := ⟨.type TS21, none, .seq #[.ref 156, .ref 159, .ref 162, .ref 165, .ref 178, .ref 185, .ref 200, .ref 207, .ref 214, .ref 221, .ref 235, .ref 242, .ref 249, .ref 260, .ref 267, .ref 281, .ref 288, .ref 295, .ref 309, .ref 320, .ref 327, .ref 334, .ref 345, .ref 352, .ref 370, .ref 389, .ref 423, .ref 437, .ref 444, .ref 451, .ref 458, .ref 465, .ref 472, .ref 479, .ref 486, .ref 500, .ref 523, .ref 537, .ref 544, .ref 551, .ref 558, .ref 565, .ref 572, .ref 579, .ref 586, .ref 600, .ref 607, .ref 625, .ref 632, .ref 639, .ref 673, .ref 680, .ref 687] 12, #[]⟩
def o590 (P : Params) : Obj := ⟨.type TS4, none, .dict #[⟨PyData.keyHash P SS63, .str SS63 1522, .str SS129 1520⟩, ⟨PyData.keyHash P SS57, .str SS57 1523, .str SS130 1521⟩, ⟨PyData.keyHash P SS58, .str SS58 1524, .int 15 269⟩, ⟨PyData.keyHash P SS60, .str SS60 1525, .int 0 386⟩, ⟨PyData.keyHash P SS64, .str SS64 1526, .ref 591⟩, ⟨PyData.keyHash P SS59, .str SS59 1531, .int 1 1550⟩, ⟨PyData.keyHash P SS47, .str SS47 1532, .str SS131 1529⟩] 7, #[]⟩
def o591 : Obj := ⟨.type TS21, none, .seq #[.ref 600, .ref 607] 2, #[]⟩
def o592 : Obj := ⟨.type TS21, none, .seq #[.str SS130 1528, .str SS131 1529] 0, #[]⟩
def o593 : Obj := ⟨.type TS22, none, .fields #[.none, .int 2 0], #[]⟩
def o594 : Obj := ⟨.type TS23, none, .fields #[.none, .bool false, .ref 593, .int 2 0, .none, .str SS131 1529], #[]⟩
def o595 : Obj := ⟨.type TS2, none, .seq #[.int 0 1530, .str SS130 1528] 0, #[]⟩
def o598 : Obj := gf 597
def o599 (P : Params) : Obj := ⟨.type TS0, none, .dict #[⟨PyData.keyHash P SS47, .str SS47 1541, .str SS130 1528⟩, ⟨PyData.keyHash P SS57, .str SS57 1543, .str SS130 1521⟩, ⟨PyData.keyHash P SS58, .str SS58 1545, .int 15 269⟩, ⟨PyData.keyHash P SS59, .str SS59 1547, .int 0 1530⟩, ⟨PyData.keyHash P SS60, .str SS60 1549, .int 0 386⟩] 5, #[]⟩
noncomputable def o600 : Obj := ⟨.ref 127, some (599), .plain, #[]⟩
def o601 (P : Params) : Obj := ⟨.type TS4, none, .dict #[⟨PyData.keyHash P SS40, .str SS40 1534, .ref 600⟩, ⟨PyData.keyHash P SS47, .str SS47 1535, .str SS130 1528⟩, ⟨PyData.keyHash P SS57, .str SS57 1536, .str SS130 1521⟩, ⟨PyData.keyHash P SS58, .str SS58 1537, .int 15 269⟩, ⟨PyData.keyHash P SS59, .str SS59 1538, .int 0 1530⟩, ⟨PyData.keyHash P SS60, .str SS60 1539, .int 0 386⟩] 6, #[]⟩
def o602 : Obj := ⟨.type TS2, none, .seq #[.int 1 1550, .str SS131 1529] 0, #[]⟩
def o605 : Obj := gf 604
def o606 (P : Params) : Obj := ⟨.type TS0, none, .dict #[⟨PyData.keyHash P SS47, .str SS47 1561, .str SS131 1529⟩, ⟨PyData.keyHash P SS57, .str SS57 1563, .str SS130 1521⟩, ⟨PyData.keyHash P SS58, .str SS58 1565, .int 15 269⟩, ⟨PyData.keyHash P SS59, .str SS59 1567, .int 1 1550⟩, ⟨PyData.keyHash P SS60, .str SS60 1569, .int 0 386⟩] 5, #[]⟩
noncomputable def o607 : Obj := ⟨.ref 127, some (606), .plain, #[]⟩
def o608 (P : Params) : Obj := ⟨.type TS4, none, .dict #[⟨PyData.keyHash P SS40, .str SS40 1554, .ref 607⟩, ⟨PyData.keyHash P SS47, .str SS47 1555, .str SS131 1529⟩, ⟨PyData.keyHash P SS57, .str SS57 1556, .str SS130 1521⟩, ⟨PyData.keyHash P SS58, .str SS58 1557, .int 15 269⟩, ⟨PyData.keyHash P SS59, .str SS59 1558, .int 1 1550⟩, ⟨PyData.keyHash P SS60, .str SS60 1559, .int 0 386⟩] 6, #[]⟩
def o610 : Obj := gf 609
def o611 (P : Params) : Obj := ⟨.type TS4, none, .dict #[⟨PyData.keyHash P SS63, .str SS63 1572, .str SS132 1570⟩, ⟨PyData.keyHash P SS57, .str SS57 1573, .str SS133 1571⟩, ⟨PyData.keyHash P SS58, .str SS58 1574, .int 115 287⟩, ⟨PyData.keyHash P SS60, .str SS60 1575, .int 0 386⟩, ⟨PyData.keyHash P SS64, .str SS64 1576, .ref 612⟩, ⟨PyData.keyHash P SS59, .str SS59 1583, .int 3 1626⟩, ⟨PyData.keyHash P SS47, .str SS47 1584, .str SS134 1581⟩] 7, #[]⟩
def o612 : Obj := ⟨.type TS21, none, .seq #[.ref 625, .ref 632, .ref 639] 3, #[]⟩
def o613 : Obj := ⟨.type TS21, none, .seq #[.str SS79 1578, .str SS135 1579, .str SS136 1580, .str SS134 1581] 0, #[]⟩
def o614 : Obj := ⟨.type TS22, none, .fields #[.none, .int 4 0], #[]⟩
def o615 : Obj := ⟨.type TS23, none, .fields #[.none, .bool false, .ref 614, .int 4 0, .none, .str SS134 1581], #[]⟩
def o616 : Obj := ⟨.type TS2, none, .seq #[.int 0 1582, .str SS79 1578] 0, #[]⟩
def o619 : Obj := gf 618
def o620 : Obj := ⟨.type TS2, none, .seq #[.int 1 1586, .str SS135 1579] 0, #[]⟩
def o623 : Obj := gf 622
def o624 (P : Params) : Obj := ⟨.type TS0, none, .dict #[⟨PyData.keyHash P SS47, .str SS47 1597, .str SS135 1579⟩, ⟨PyData.keyHash P SS57, .str SS57 1599, .str SS133 1571⟩, ⟨PyData.keyHash P SS58, .str SS58 1601, .int 115 287⟩, ⟨PyData.keyHash P SS59, .str SS59 1603, .int 1 1586⟩, ⟨PyData.keyHash P SS60, .str SS60 1605, .int 0 386⟩] 5, #[]⟩
noncomputable def o625 : Obj := ⟨.ref 127, some (624), .plain, #[]⟩
def o626 (P : Params) : Obj := ⟨.type TS4, none, .dict #[⟨PyData.keyHash P SS40, .str SS40 1590, .ref 625⟩, ⟨PyData.keyHash P SS47, .str SS47 1591, .str SS135 1579⟩, ⟨PyData.keyHash P SS57, .str SS57 1592, .str SS133 1571⟩, ⟨PyData.keyHash P SS58, .str SS58 1593, .int 115 287⟩, ⟨PyData.keyHash P SS59, .str SS59 1594, .int 1 1586⟩, ⟨PyData.keyHash P SS60, .str SS60 1595, .int 0 386⟩] 6, #[]⟩
def o627 : Obj := ⟨.type TS2, none, .seq #[.int 2 1606, .str SS136 1580] 0, #[]⟩
def o630 : Obj := gf 629
def o631 (P : Params) : Obj := ⟨.type TS0, none, .dict #[⟨PyData.keyHash P SS47, .str SS47 1617, .str SS136 1580⟩, ⟨PyData.keyHash P SS57, .str SS57 1619, .str SS133 1571⟩, ⟨PyData.keyHash P SS58, .str SS58 1621, .int 115 287⟩, ⟨PyData.keyHash P SS59, .str SS59 1623, .int 2 1606⟩, ⟨PyData.keyHash P SS60, .str SS60 1625, .int 0 386⟩] 5, #[]⟩
noncomputable def o632 : Obj := ⟨.ref 127, some (631), .plain, #[]⟩
def o633 (P : Params) : Obj := ⟨.type TS4, none, .dict #[⟨PyData.keyHash P SS40, .str SS40 1610, .ref 632⟩, ⟨PyData.keyHash P SS47, .str SS47 1611, .str SS136 1580⟩, ⟨PyData.keyHash P SS57, .str SS57 1612, .str SS133 1571⟩, ⟨PyData.keyHash P SS58, .str SS58 1613, .int 115 287⟩, ⟨PyData.keyHash P SS59, .str SS59 1614, .int 2 1606⟩, ⟨PyData.keyHash P SS60, .str SS60 1615, .int 0 386⟩] 6, #[]⟩
def o634 : Obj := ⟨.type TS2, none, .seq #[.int 3 1626, .str SS134 1581] 0, #[]⟩
def o637 : Obj := gf 636
def o638 (P : Params) : Obj := ⟨.type TS0, none, .dict #[⟨PyData.keyHash P SS47, .str SS47 1637, .str SS134 1581⟩, ⟨PyData.keyHash P SS57, .str SS57 1639, .str SS133 1571⟩, ⟨PyData.keyHash P SS58, .str SS58 1641, .int 115 287⟩, ⟨PyData.keyHash P SS59, .str SS59 1643, .int 3 1626⟩, ⟨PyData.keyHash P SS60, .str SS60 1645, .int 0 386⟩] 5, #[]⟩
noncomputable def o639 : Obj := ⟨.ref 127, some (638), .plain, #[]⟩
def o640 (P : Params) : Obj := ⟨.type TS4, none, .dict #[⟨PyData.keyHash P SS40, .str SS40 1630, .ref 639⟩, ⟨PyData.keyHash P SS47, .str SS47 1631, .str SS134 1581⟩, ⟨PyData.keyHash P SS57, .str SS57 1632, .str SS133 1571⟩, ⟨PyData.keyHash P SS58, .str SS58 1633, .int 115 287⟩, ⟨PyData.keyHash P SS59, .str SS59 1634, .int 3 1626⟩, ⟨PyData.keyHash P SS60, .str SS60 1635, .int 0 386⟩] 6, #[]⟩
def o642 : Obj := gf 641
def o643 (P : Params) : Obj := ⟨.type TS4, none, .dict #[⟨PyData.keyHash P SS63, .str SS63 1648, .str SS137 1646⟩, ⟨PyData.keyHash P SS57, .str SS57 1649, .str SS138 1647⟩, ⟨PyData.keyHash P SS58, .str SS58 1650, .int 115 287⟩, ⟨PyData.keyHash P SS60, .str SS60 1651, .int 0 386⟩, ⟨PyData.keyHash P SS64, .str SS64 1652, .ref 644⟩, ⟨PyData.keyHash P SS59, .str SS59 1663, .int 7 1722⟩, ⟨PyData.keyHash P SS47, .str SS47 1664, .str SS139 1661⟩] 7, #[]⟩
def o644 : Obj := ⟨.type TS21, none, .seq #[.ref 673, .ref 680, .ref 687] 3, #[]⟩
def o645 : Obj := ⟨.type TS21, none, .seq #[.str SS79 1654, .str SS79 1655, .str SS79 1656, .str SS79 1657, .str SS79 1658, .str SS140 1659, .str SS141 1660, .str SS139 1661] 0, #[]⟩
def o647 : Obj := ⟨.type TS23, none, .fields #[.none, .bool false, .ref 646, .int 8 0, .none, .str SS139 1661], #[]⟩
def o648 : Obj := ⟨.type TS2, none, .seq #[.int 0 1662, .str SS79 1654] 0, #[]⟩
def o651 : Obj := gf 650
def o652 : Obj := ⟨.type TS2, none, .seq #[.int 1 1666, .str SS79 1655] 0, #[]⟩
def o655 : Obj := gf 654
def o656 : Obj := ⟨.type TS2, none, .seq #[.int 2 1670, .str SS79 1656] 0, #[]⟩
def o659 : Obj := gf 658
def o660 : Obj := ⟨.type TS2, none, .seq #[.int 3 1674, .str SS79 1657] 0, #[]⟩
def o663 : Obj := gf 662
def o664 : Obj := ⟨.type TS2, none, .seq #[.int 4 1678, .str SS79 1658] 0, #[]⟩
def o667 : Obj := gf 666
def o668 : Obj := ⟨.type TS2, none, .seq #[.int 5 1682, .str SS140 1659] 0, #[]⟩
def o671 : Obj := gf 670
def o672 (P : Params) : Obj := ⟨.type TS0, none, .dict #[⟨PyData.keyHash P SS47, .str SS47 1693, .str SS140 1659⟩, ⟨PyData.keyHash P SS57, .str SS57 1695, .str SS138 1647⟩, ⟨PyData.keyHash P SS58, .str SS58 1697, .int 115 287⟩, ⟨PyData.keyHash P SS59, .str SS59 1699, .int 5 1682⟩, ⟨PyData.keyHash P SS60, .str SS60 1701, .int 0 386⟩] 5, #[]⟩
noncomputable def o673 : Obj := ⟨.ref 127, some (672), .plain, #[]⟩
def o674 (P : Params) : Obj := ⟨.type TS4, none, .dict #[⟨PyData.keyHash P SS40, .str SS40 1686, .ref 673⟩, ⟨PyData.keyHash P SS47, .str SS47 1687, .str SS140 1659⟩, ⟨PyData.keyHash P SS57, .str SS57 1688, .str SS138 1647⟩, ⟨PyData.keyHash P SS58, .str SS58 1689, .int 115 287⟩, ⟨PyData.keyHash P SS59, .str SS59 1690, .int 5 1682⟩, ⟨PyData.keyHash P SS60, .str SS60 1691, .int 0 386⟩] 6, #[]⟩
def o675 : Obj := ⟨.type TS2, none, .seq #[.int 6 1702, .str SS141 1660] 0, #[]⟩
def o678 : Obj := gf 677
def o679 (P : Params) : Obj := ⟨.type TS0, none, .dict #[⟨PyData.keyHash P SS47, .str SS47 1713, .str SS141 1660⟩, ⟨PyData.keyHash P SS57, .str SS57 1715, .str SS138 1647⟩, ⟨PyData.keyHash P SS58, .str SS58 1717, .int 115 287⟩, ⟨PyData.keyHash P SS59, .str SS59 1719, .int 6 1702⟩, ⟨PyData.keyHash P SS60, .str SS60 1721, .int 0 386⟩] 5, #[]⟩
noncomputable def o680 : Obj := ⟨.ref 127, some (679), .plain, #[]⟩
def o681 (P : Params) : Obj := ⟨.type TS4, none, .dict #[⟨PyData.keyHash P SS40, .str SS40 1706, .ref 680⟩, ⟨PyData.keyHash P SS47, .str SS47 1707, .str SS141 1660⟩, ⟨PyData.keyHash P SS57, .str SS57 1708, .str SS138 1647⟩, ⟨PyData.keyHash P SS58, .str SS58 1709, .int 115 287⟩, ⟨PyData.keyHash P SS59, .str SS59 1710, .int 6 1702⟩, ⟨PyData.keyHash P SS60, .str SS60 1711, .int 0 386⟩] 6, #[]⟩
def o682 : Obj := ⟨.type TS2, none, .seq #[.int 7 1722, .str SS139 1661] 0, #[]⟩
def o685 : Obj := gf 684
def o686 (P : Params) : Obj := ⟨.type TS0, none, .dict #[⟨PyData.keyHash P SS47, .str SS47 1733, .str SS139 1661⟩, ⟨PyData.keyHash P SS57, .str SS57 1735, .str SS138 1647⟩, ⟨PyData.keyHash P SS58, .str SS58 1737, .int 115 287⟩, ⟨PyData.keyHash P SS59, .str SS59 1739, .int 7 1722⟩, ⟨PyData.keyHash P SS60, .str SS60 1741, .int 0 386⟩] 5, #[]⟩
noncomputable def o687 : Obj := ⟨.ref 127, some (686), .plain, #[]⟩
def o688 (P : Params) : Obj := ⟨.type TS4, none, .dict #[⟨PyData.keyHash P SS40, .str SS40 1726, .ref 687⟩, ⟨PyData.keyHash P SS47, .str SS47 1727, .str SS139 1661⟩, ⟨PyData.keyHash P SS57, .str SS57 1728, .str SS138 1647⟩, ⟨PyData.keyHash P SS58, .str SS58 1729, .int 115 287⟩, ⟨PyData.keyHash P SS59, .str SS59 1730, .int 7 1722⟩, ⟨PyData.keyHash P SS60, .str SS60 1731, .int 0 386⟩] 6, #[]⟩
def o690 : Obj := gf 689
def o149a (P : Params) : Obj := ⟨.type TS0, none, .dict #[⟨PyData.keyHash P SS33, .str SS33 416, .str SS1 265⟩, ⟨PyData.keyHash P SS35, .str SS35 418, .str SS66 417⟩, ⟨PyData.keyHash P SS36, .str SS36 420, .int 76 419⟩, ⟨PyData.keyHash P SS142, .str SS142 1882, .ref 167⟩] 4, #[]⟩
def o154a (P : Params) : Obj := ⟨.type TS4, none, .dict #[⟨PyData.keyHash P SS64, .str SS64 493, .ref 167⟩, ⟨PyData.keyHash P SS47, .str SS47 1772, .str SS143 1770⟩, ⟨PyData.keyHash P SS65, .str SS65 1773, .int 770 1771⟩] 3, #[]⟩
def o167f : Obj := ⟨.type TS21, none, .seq #[.ref 156, .ref 159, .ref 162, .ref 165, .ref 178, .ref 185, .ref 200, .ref 207, .ref 214, .ref 221, .ref 235, .ref 242, .ref 249, .ref 260, .ref 267, .ref 281, .ref 288, .ref 295, .ref 309, .ref 320, .ref 327, .ref 334, .ref 345, .ref 352, .ref 370, .ref 389, .ref 423, .ref 437, .ref 444, .ref 451, .ref 458, .ref 465, .ref 472, .ref 479, .ref 486, .ref 500, .ref 523, .ref 537, .ref 544, .ref 551, .ref 558, .ref 565, .ref 572, .ref 579, .ref 586, .ref 600, .ref 607, .ref 625, .ref 632, .ref 639, .ref 673, .ref 680, .ref 687, .ref 692, .ref 705, .ref 711, .ref 717, .ref 723, .ref 729] 18, #[]⟩
def o691 (P : Params) : Obj := ⟨.type TS0, none, .dict #[⟨PyData.keyHash P SS47, .str SS47 1753, .str SS144 1742⟩, ⟨PyData.keyHash P SS57, .str SS57 1755, .str SS145 1743⟩, ⟨PyData.keyHash P SS58, .str SS58 1757, .int 115 287⟩, ⟨PyData.keyHash P SS59, .str SS59 1759, .int 0 1744⟩, ⟨PyData.keyHash P SS60, .str SS60 1761, .int 9 1745⟩] 5, #[]⟩
noncomputable def o692 : Obj := ⟨.ref 127, some (691), .plain, #[]⟩
def o693 (P : Params) : Obj := ⟨.type TS4, none, .dict #[⟨PyData.keyHash P SS40, .str SS40 1746, .ref 692⟩, ⟨PyData.keyHash P SS47, .str SS47 1747, .str SS144 1742⟩, ⟨PyData.keyHash P SS57, .str SS57 1748, .str SS145 1743⟩, ⟨PyData.keyHash P SS58, .str SS58 1749, .int 115 287⟩, ⟨PyData.keyHash P SS59, .str SS59 1750, .int 0 1744⟩, ⟨PyData.keyHash P SS60, .str SS60 1751, .int 9 1745⟩] 6, #[]⟩
def o694 : Obj := ⟨.type TS2, none, .seq #[.str SS146 1762, .int 0 1763] 0, #[]⟩
def o695 : Obj := ⟨.type TS2, none, .seq #[.str SS147 1764, .int 1 1765] 0, #[]⟩
def o696 : Obj := ⟨.type TS2, none, .seq #[.str SS148 1766, .int 258 1767] 0, #[]⟩
def o697 : Obj := ⟨.type TS2, none, .seq #[.str SS149 1768, .int 261 1769] 0, #[]⟩
def o698 : Obj := ⟨.type TS2, none, .seq #[.str SS143 1770, .int 770 1771] 0, #[]⟩
def o699 : Obj := ⟨.type TS2, none, .seq #[.ref 694, .ref 695, .ref 696, .ref 697, .ref 698] 0, #[]⟩
def o700 : Obj := ⟨.type TS24, none, .fields #[.none, .int 5 0], #[]⟩
def o703 : Obj := gf 702
def o704 (P : Params) : Obj := ⟨.type TS0, none, .dict #[⟨PyData.keyHash P SS47, .str SS47 1785, .str SS146 1762⟩, ⟨PyData.keyHash P SS57, .str SS57 1787, .str SS150 1774⟩, ⟨PyData.keyHash P SS58, .str SS58 1789, .int 115 1777⟩, ⟨PyData.keyHash P SS59, .str SS59 1791, .int 0 352⟩, ⟨PyData.keyHash P SS60, .str SS60 1793, .int 0 353⟩] 5, #[]⟩
noncomputable def o705 : Obj := ⟨.ref 127, some (704), .plain, #[]⟩
def o706 (P : Params) : Obj := ⟨.type TS4, none, .dict #[⟨PyData.keyHash P SS40, .str SS40 1778, .ref 705⟩, ⟨PyData.keyHash P SS47, .str SS47 1779, .str SS146 1762⟩, ⟨PyData.keyHash P SS57, .str SS57 1780, .str SS150 1774⟩, ⟨PyData.keyHash P SS58, .str SS58 1781, .int 115 1777⟩, ⟨PyData.keyHash P SS59, .str SS59 1782, .int 0 352⟩, ⟨PyData.keyHash P SS60, .str SS60 1783, .int 0 353⟩] 6, #[]⟩
def o709 : Obj := gf 708
def o710 (P : Params) : Obj := ⟨.type TS0, none, .dict #[⟨PyData.keyHash P SS47, .str SS47 1807, .str SS147 1764⟩, ⟨PyData.keyHash P SS57, .str SS57 1809, .str SS150 1796⟩, ⟨PyData.keyHash P SS58, .str SS58 1811, .int 1048691 1799⟩, ⟨PyData.keyHash P SS59, .str SS59 1813, .int 0 352⟩, ⟨PyData.keyHash P SS60, .str SS60 1815, .int 0 353⟩] 5, #[]⟩
noncomputable def o711 : Obj := ⟨.ref 127, some (710), .plain, #[]⟩
def o712 (P : Params) : Obj := ⟨.type TS4, none, .dict #[⟨PyData.keyHash P SS40, .str SS40 1800, .ref 711⟩, ⟨PyData.keyHash P SS47, .str SS47 1801, .str SS147 1764⟩, ⟨PyData.keyHash P SS57, .str SS57 1802, .str SS150 1796⟩, ⟨PyData.keyHash P SS58, .str SS58 1803, .int 1048691 1799⟩, ⟨PyData.keyHash P SS59, .str SS59 1804, .int 0 352⟩, ⟨PyData.keyHash P SS60, .str SS60 1805, .int 0 353⟩] 6, #[]⟩
def o715 : Obj := gf 714
def o716 (P : Params) : Obj := ⟨.type TS0, none, .dict #[⟨PyData.keyHash P SS47, .str SS47 1829, .str SS148 1766⟩, ⟨PyData.keyHash P SS57, .str SS57 1831, .str SS150 1818⟩, ⟨PyData.keyHash P SS58, .str SS58 1833, .int 270532723 1821⟩, ⟨PyData.keyHash P SS59, .str SS59 1835, .int 0 352⟩, ⟨PyData.keyHash P SS60, .str SS60 1837, .int 0 353⟩] 5, #[]⟩
noncomputable def o717 : Obj := ⟨.ref 127, some (716), .plain, #[]⟩
def o718 (P : Params) : Obj := ⟨.type TS4, none, .dict #[⟨PyData.keyHash P SS40, .str SS40 1822, .ref 717⟩, ⟨PyData.keyHash P SS47, .str SS47 1823, .str SS148 1766⟩, ⟨PyData.keyHash P SS57, .str SS57 1824, .str SS150 1818⟩, ⟨PyData.keyHash P SS58, .str SS58 1825, .int 270532723 1821⟩, ⟨PyData.keyHash P SS59, .str SS59 1826, .int 0 352⟩, ⟨PyData.keyHash P SS60, .str SS60 1827, .int 0 353⟩] 6, #[]⟩
def o721 : Obj := gf 720
def o722 (P : Params) : Obj := ⟨.type TS0, none, .dict #[⟨PyData.keyHash P SS47, .str SS47 1851, .str SS149 1768⟩, ⟨PyData.keyHash P SS57, .str SS57 1853, .str SS150 1840⟩, ⟨PyData.keyHash P SS58, .str SS58 1855, .int 273678451 1843⟩, ⟨PyData.keyHash P SS59, .str SS59 1857, .int 0 352⟩, ⟨PyData.keyHash P SS60, .str SS60 1859, .int 0 353⟩] 5, #[]⟩
noncomputable def o723 : Obj := ⟨.ref 127, some (722), .plain, #[]⟩
def o724 (P : Params) : Obj := ⟨.type TS4, none, .dict #[⟨PyData.keyHash P SS40, .str SS40 1844, .ref 723⟩, ⟨PyData.keyHash P SS47, .str SS47 1845, .str SS149 1768⟩, ⟨PyData.keyHash P SS57, .str SS57 1846, .str SS150 1840⟩, ⟨PyData.keyHash P SS58, .str SS58 1847, .int 273678451 1843⟩, ⟨PyData.keyHash P SS59, .str SS59 1848, .int 0 352⟩, ⟨PyData.keyHash P SS60, .str SS60 1849, .int 0 353⟩] 6, #[]⟩
def o727 : Obj := gf 726
def o728 (P : Params) : Obj := ⟨.type TS0, none, .dict #[⟨PyData.keyHash P SS47, .str SS47 1873, .str SS143 1770⟩, ⟨PyData.keyHash P SS57, .str SS57 1875, .str SS150 1862⟩, ⟨PyData.keyHash P SS58, .str SS58 1877, .int 807403635 1865⟩, ⟨PyData.keyHash P SS59, .str SS59 1879, .int 0 352⟩, ⟨PyData.keyHash P SS60, .str SS60 1881, .int 0 353⟩] 5, #[]⟩
noncomputable def o729 : Obj := ⟨.ref 127, some (728), .plain, #[]⟩
def o730 (P : Params) : Obj := ⟨.type TS4, none, .dict #[⟨PyData.keyHash P SS40, .str SS40 1866, .ref 729⟩, ⟨PyData.keyHash P SS47, .str SS47 1867, .str SS143 1770⟩, ⟨PyData.keyHash P SS57, .str SS57 1868, .str SS150 1862⟩, ⟨PyData.keyHash P SS58, .str SS58 1869, .int 807403635 1865⟩, ⟨PyData.keyHash P SS59, .str SS59 1870, .int 0 352⟩, ⟨PyData.keyHash P SS60, .str SS60 1871, .int 0 353⟩] 6, #[]⟩
def o732 : Obj := gf 731
def o149b (P : Params) : Obj := ⟨.type TS0, none, .dict #[⟨PyData.keyHash P SS33, .str SS33 416, .str SS1 265⟩, ⟨PyData.keyHash P SS35, .str SS35 418, .str SS66 417⟩, ⟨PyData.keyHash P SS36, .str SS36 420, .int 76 419⟩, ⟨PyData.keyHash P SS142, .str SS142 1882, .ref 167⟩, ⟨PyData.keyHash P SS151, .str SS151 2060, .ref 734⟩] 5, #[]⟩
def o733 : Obj := ⟨.type TS22, none, .fields #[.none, .int 59 0], #[]⟩
def o734 (P : Params) : Obj := ⟨.type TS0, none, .dict #[⟨PyData.keyHash P SS67, .str SS67 421, .ref 156⟩, ⟨PyData.keyHash P SS69, .str SS69 439, .ref 159⟩, ⟨PyData.keyHash P SS70, .str SS70 457, .ref 162⟩, ⟨PyData.keyHash P SS72, .str SS72 475, .ref 165⟩, ⟨PyData.keyHash P SS77, .str SS77 502, .ref 178⟩, ⟨PyData.keyHash P SS78, .str SS78 503, .ref 185⟩, ⟨PyData.keyHash P SS80, .str SS80 506, .ref 200⟩, ⟨PyData.keyHash P SS81, .str SS81 507, .ref 207⟩, ⟨PyData.keyHash P SS82, .str SS82 508, .ref 214⟩, ⟨PyData.keyHash P SS76, .str SS76 509, .ref 221⟩, ⟨PyData.keyHash P SS85, .str SS85 646, .ref 235⟩, ⟨PyData.keyHash P SS86, .str SS86 647, .ref 242⟩, ⟨PyData.keyHash P SS87, .str SS87 648, .ref 249⟩, ⟨PyData.keyHash P SS88, .str SS88 650, .ref 260⟩, ⟨PyData.keyHash P SS84, .str SS84 651, .ref 267⟩, ⟨PyData.keyHash P SS92, .str SS92 764, .ref 281⟩, ⟨PyData.keyHash P SS93, .str SS93 765, .ref 288⟩, ⟨PyData.keyHash P SS91, .str SS91 766, .ref 295⟩, ⟨PyData.keyHash P SS96, .str SS96 835, .ref 309⟩, ⟨PyData.keyHash P SS97, .str SS97 837, .ref 320⟩, ⟨PyData.keyHash P SS98, .str SS98 838, .ref 327⟩, ⟨PyData.keyHash P SS99, .str SS99 839, .ref 334⟩, ⟨PyData.keyHash P SS100, .str SS100 841, .ref 345⟩, ⟨PyData.keyHash P SS95, .str SS95 842, .ref 352⟩, ⟨PyData.keyHash P SS104, .str SS104 980, .ref 370⟩, ⟨PyData.keyHash P SS103, .str SS103 984, .ref 389⟩, ⟨PyData.keyHash P SS106, .str SS106 1055, .ref 423⟩, ⟨PyData.keyHash P SS110, .str SS110 1104, .ref 437⟩, ⟨PyData.keyHash P SS111, .str SS111 1105, .ref 444⟩, ⟨PyData.keyHash P SS112, .str SS112 1106, .ref 451⟩, ⟨PyData.keyHash P SS113, .str SS113 1107, .ref 458⟩, ⟨PyData.keyHash P SS114, .str SS114 1108, .ref 465⟩, ⟨PyData.keyHash P SS115, .str SS115 1109, .ref 472⟩, ⟨PyData.keyHash P SS116, .str SS116 1110, .ref 479⟩, ⟨PyData.keyHash P SS109, .str SS109 1111, .ref 486⟩, ⟨PyData.keyHash P SS119, .str SS119 1281, .ref 500⟩, ⟨PyData.keyHash P SS118, .str SS118 1286, .ref 523⟩, ⟨PyData.keyHash P SS122, .str SS122 1352, .ref 537⟩, ⟨PyData.keyHash P SS123, .str SS123 1353, .ref 544⟩, ⟨PyData.keyHash P SS124, .str SS124 1354, .ref 551⟩, ⟨PyData.keyHash P SS125, .str SS125 1355, .ref 558⟩, ⟨PyData.keyHash P SS126, .str SS126 1356, .ref 565⟩, ⟨PyData.keyHash P SS127, .str SS127 1357, .ref 572⟩, ⟨PyData.keyHash P SS128, .str SS128 1358, .ref 579⟩, ⟨PyData.keyHash P SS121, .str SS121 1359, .ref 586⟩, ⟨PyData.keyHash P SS130, .str SS130 1528, .ref 600⟩, ⟨PyData.keyHash P SS131, .str SS131 1529, .ref 607⟩, ⟨PyData.keyHash P SS135, .str SS135 1579, .ref 625⟩, ⟨PyData.keyHash P SS136, .str SS136 1580, .ref 632⟩, ⟨PyData.keyHash P SS134, .str SS134 1581, .ref 639⟩, ⟨PyData.keyHash P SS140, .str SS140 1659, .ref 673⟩, ⟨PyData.keyHash P SS141, .str SS141 1660, .ref 680⟩, ⟨PyData.keyHash P SS139, .str SS139 1661, .ref 687⟩, ⟨PyData.keyHash P SS144, .str SS144 1742, .ref 692⟩, ⟨PyData.keyHash P SS146, .str SS146 1762, .ref 705⟩, ⟨PyData.keyHash P SS147, .str SS147 1764, .ref 711⟩, ⟨PyData.keyHash P SS148, .str SS148 1766, .ref 717⟩, ⟨PyData.keyHash P SS149, .str SS149 1768, .ref 723⟩, ⟨PyData.keyHash P SS143, .str SS143 1770, .ref 729⟩] 59, #[]⟩
def o735 : Obj := ⟨.type TS0, none, .dict #[] 2, #[]⟩
def o737 : Obj := gf 736
def o149c (P : Params) : Obj := ⟨.type TS0, none, .dict #[⟨PyData.keyHash P SS33, .str SS33 416, .str SS1 265⟩, ⟨PyData.keyHash P SS35, .str SS35 418, .str SS66 417⟩, ⟨PyData.keyHash P SS36, .str SS36 420, .int 76 419⟩, ⟨PyData.keyHash P SS142, .str SS142 1882, .ref 167⟩, ⟨PyData.keyHash P SS151, .str SS151 2060, .ref 734⟩, ⟨PyData.keyHash P SS152, .str SS152 2303, .ref 739⟩] 6, #[]⟩
def o739 : Obj := ⟨.type TS0, none, .dict #[⟨55, .int 55 279, .ref 156⟩, ⟨23, .int 23 273, .ref 159⟩, ⟨111, .int 111 285, .ref 162⟩] 3, #[]⟩
def o741 : Obj := ⟨.type TS2, none, .seq #[.str SS68 2063, .str SS71 2064] 0, #[]⟩
def o742 : Obj := ⟨.type TS2, none, .seq #[.str SS68 2069, .str SS71 2070] 0, #[]⟩
def o743 : Obj := ⟨.type TS2, none, .seq #[.str SS68 2075, .str SS71 2076] 0, #[]⟩
def o744 : Obj := ⟨.type TS2, none, .seq #[.str SS68 2081, .str SS71 2082] 0, #[]⟩
def o745 : Obj := ⟨.type TS2, none, .seq #[.str SS68 2085, .str SS71 2086] 0, #[]⟩
def o746 : Obj := ⟨.type TS2, none, .seq #[.str SS68 2089, .str SS71 2090] 0, #[]⟩
def o747 : Obj := ⟨.type TS2, none, .seq #[.str SS68 2093, .str SS71 2094] 0, #[]⟩
def o748 : Obj := ⟨.type TS2, none, .seq #[.str SS68 2097, .str SS71 2098] 0, #[]⟩
def o749 : Obj := ⟨.type TS2, none, .seq #[.str SS68 2101, .str SS71 2102] 0, #[]⟩
def o750 : Obj := ⟨.type TS2, none, .seq #[.str SS68 2105, .str SS71 2106] 0, #[]⟩
def o751 : Obj := ⟨.type TS2, none, .seq #[.str SS68 2109, .str SS71 2110] 0, #[]⟩
def o752 : Obj := ⟨.type TS2, none, .seq #[.str SS68 2113, .str SS71 2114] 0, #[]⟩
def o753 : Obj := ⟨.type TS2, none, .seq #[.str SS68 2117, .str SS71 2118] 0, #[]⟩
def o754 : Obj := ⟨.type TS2, none, .seq #[.str SS68 2121, .str SS71 2122] 0, #[]⟩
def o755 : Obj := ⟨.type TS2, none, .seq #[.str SS68 2125, .str SS71 2126] 0, #[]⟩
def o756 : Obj := ⟨.type TS2, none, .seq #[.str SS68 2129, .str SS71 2130] 0, #[]⟩
def o757 : Obj := ⟨.type TS2, none, .seq #[.str SS68 2133, .str SS71 2134] 0, #[]⟩
def o758 : Obj := ⟨.type TS2, none, .seq #[.str SS68 2137, .str SS71 2138] 0, #[]⟩
def o759 : Obj := ⟨.type TS2, none, .seq #[.str SS68 2141, .str SS71 2142] 0, #[]⟩
def o760 : Obj := ⟨.type TS2, none, .seq #[.str SS68 2145, .str SS71 2146] 0, #[]⟩
def o761 : Obj := ⟨.type TS2, none, .seq #[.str SS68 2149, .str SS71 2150] 0, #[]⟩
def o762 : Obj := ⟨.type TS2, none, .seq #[.str SS68 2153, .str SS71 2154] 0, #[]⟩
def o763 : Obj := ⟨.type TS2, none, .seq #[.str SS68 2157, .str SS71 2158] 0, #[]⟩
def o764 : Obj := ⟨.type TS2, none, .seq #[.str SS68 2161, .str SS71 2162] 0, #[]⟩
def o765 : Obj := ⟨.type TS2, none, .seq #[.str SS68 2165, .str SS71 2166] 0, #[]⟩
def o766 : Obj := ⟨.type TS2, none, .seq #[.str SS68 2169, .str SS71 2170] 0, #[]⟩
def o767 : Obj := ⟨.type TS2, none, .seq #[.str SS68 2173, .str SS71 2174] 0, #[]⟩
def o768 : Obj := ⟨.type TS2, none, .seq #[.str SS68 2177, .str SS71 2178] 0, #[]⟩
def o769 : Obj := ⟨.type TS2, none, .seq #[.str SS68 2181, .str SS71 2182] 0, #[]⟩
def o770 : Obj := ⟨.type TS2, none, .seq #[.str SS68 2185, .str SS71 2186] 0, #[]⟩
def o771 : Obj := ⟨.type TS2, none, .seq #[.str SS68 2189, .str SS71 2190] 0, #[]⟩
def o772 : Obj := ⟨.type TS2, none, .seq #[.str SS68 2193, .str SS71 2194] 0, #[]⟩
def o773 : Obj := ⟨.type TS2, none, .seq #[.str SS68 2197, .str SS71 2198] 0, #[]⟩
def o774 : Obj := ⟨.type TS2, none, .seq #[.str SS68 2201, .str SS71 2202] 0, #[]⟩
def o775 : Obj := ⟨.type TS2, none, .seq #[.str SS68 2205, .str SS71 2206] 0, #[]⟩
def o776 : Obj := ⟨.type TS2, none, .seq #[.str SS68 2209, .str SS71 2210] 0, #[]⟩
def o777 : Obj := ⟨.type TS2, none, .seq #[.str SS68 2213, .str SS71 2214] 0, #[]⟩
def o778 : Obj := ⟨.type TS2, none, .seq #[.str SS68 2217, .str SS71 2218] 0, #[]⟩
def o779 : Obj := ⟨.type TS2, none, .seq #[.str SS68 2221, .str SS71 2222] 0, #[]⟩
def o780 : Obj := ⟨.type TS2, none, .seq #[.str SS68 2225, .str SS71 2226] 0, #[]⟩
def o781 : Obj := ⟨.type TS2, none, .seq #[.str SS68 2229, .str SS71 2230] 0, #[]⟩
def o782 : Obj := ⟨.type TS2, none, .seq #[.str SS68 2233, .str SS71 2234] 0, #[]⟩
def o783 : Obj := ⟨.type TS2, none, .seq #[.str SS68 2237, .str SS71 2238] 0, #[]⟩
def o784 : Obj := ⟨.type TS2, none, .seq #[.str SS68 2241, .str SS71 2242] 0, #[]⟩
def o785 : Obj := ⟨.type TS2, none, .seq #[.str SS68 2245, .str SS71 2246] 0, #[]⟩
def o786 : Obj := ⟨.type TS2, none, .seq #[.str SS68 2249, .str SS71 2250] 0, #[]⟩
def o787 : Obj := ⟨.type TS2, none, .seq #[.str SS68 2253, .str SS71 2254] 0, #[]⟩
def o788 : Obj := ⟨.type TS2, none, .seq #[.str SS68 2257, .str SS71 2258] 0, #[]⟩
def o789 : Obj := ⟨.type TS2, none, .seq #[.str SS68 2261, .str SS71 2262] 0, #[]⟩
def o790 : Obj := ⟨.type TS2, none, .seq #[.str SS68 2265, .str SS71 2266] 0, #[]⟩
def o791 : Obj := ⟨.type TS2, none, .seq #[.str SS68 2269, .str SS71 2270] 0, #[]⟩
def o792 : Obj := ⟨.type TS2, none, .seq #[.str SS68 2273, .str SS71 2274] 0, #[]⟩
def o793 : Obj := ⟨.type TS2, none, .seq #[.str SS68 2277, .str SS71 2278] 0, #[]⟩
def o794 : Obj := ⟨.type TS2, none, .seq #[.str SS68 2281, .str SS71 2282] 0, #[]⟩
def o795 : Obj := ⟨.type TS2, none, .seq #[.str SS68 2285, .str SS71 2286] 0, #[]⟩
def o796 : Obj := ⟨.type TS2, none, .seq #[.str SS68 2289, .str SS71 2290] 0, #[]⟩
def o797 : Obj := ⟨.type TS2, none, .seq #[.str SS68 2293, .str SS71 2294] 0, #[]⟩
def o798 : Obj := ⟨.type TS2, none, .seq #[.str SS68 2297, .str SS71 2298] 0, #[]⟩
def o799 : Obj := ⟨.type TS2, none, .seq #[.str SS68 2301, .str SS71 2302] 0, #[]⟩
def o801 : Obj := gf 800
def o802 : Obj := ⟨.type TS22, none, .fields #[.ref 167, .int 22 0], #[]⟩
def o803 : Obj := ⟨.type TS0, none, .dict #[⟨103, .int 103 2345, .ref 165⟩, ⟨99, .int 99 2364, .ref 178⟩, ⟨4195, .int 4195 2383, .ref 185⟩, ⟨16483, .int 16483 2402, .ref 200⟩, ⟨20579, .int 20579 2421, .ref 207⟩, ⟨24675, .int 24675 2440, .ref 214⟩, ⟨28771, .int 28771 2459, .ref 221⟩, ⟨3, .int 3 2478, .ref 235⟩, ⟨4099, .int 4099 2497, .ref 242⟩, ⟨8195, .int 8195 2516, .ref 249⟩, ⟨16387, .int 16387 2535, .ref 260⟩, ⟨20483, .int 20483 2554, .ref 267⟩, ⟨35, .int 35 2573, .ref 281⟩, ⟨4131, .int 4131 2592, .ref 288⟩, ⟨8227, .int 8227 2611, .ref 295⟩, ⟨19, .int 19 2630, .ref 309⟩, ⟨8211, .int 8211 2649, .ref 320⟩, ⟨12307, .int 12307 2668, .ref 327⟩, ⟨16403, .int 16403 2687, .ref 334⟩] 19, #[]⟩
def o804 (P : Params) : Obj := ⟨.type TS0, none, .dict #[⟨PyData.keyHash P SS153, .str SS153 2304, .ref 334⟩] 1, #[]⟩
def o805 : Obj := ⟨.type TS2, none, .seq #[.str SS73 2306, .str SS90 2307, .str SS75 2308, .str SS130 2309, .str SS133 2310, .str SS138 2311] 0, #[]⟩
def o806 : Obj := ⟨.type TS2, none, .seq #[.str SS73 2314, .str SS90 2315, .str SS75 2316, .str SS130 2317, .str SS133 2318, .str SS138 2319] 0, #[]⟩
def o807 : Obj := ⟨.type TS2, none, .seq #[.str SS73 2322, .str SS90 2323, .str SS75 2324, .str SS130 2325, .str SS133 2326, .str SS138 2327] 0, #[]⟩
def o808 : Obj := ⟨.type TS2, none, .seq #[.str SS73 2330, .str SS90 2331, .str SS75 2332, .str SS130 2333, .str SS133 2334, .str SS138 2335] 0, #[]⟩
def o809 (P : Params) : Obj := ⟨.type TS4, none, .dict #[⟨PyData.keyHash P SS40, .str SS40 2336, .ref 165⟩] 1, #[]⟩
def o810 : Obj := ⟨.type TS2, none, .seq #[.str SS73 2349, .str SS90 2350, .str SS75 2351, .str SS130 2352, .str SS133 2353, .str SS138 2354] 0, #[]⟩
def o811 (P : Params) : Obj := ⟨.type TS4, none, .dict #[⟨PyData.keyHash P SS40, .str SS40 2355, .ref 178⟩] 1, #[]⟩
def o812 : Obj := ⟨.type TS2, none, .seq #[.str SS73 2368, .str SS90 2369, .str SS75 2370, .str SS130 2371, .str SS133 2372, .str SS138 2373] 0, #[]⟩
def o813 (P : Params) : Obj := ⟨.type TS4, none, .dict #[⟨PyData.keyHash P SS40, .str SS40 2374, .ref 185⟩] 1, #[]⟩
def o814 : Obj := ⟨.type TS2, none, .seq #[.str SS73 2387, .str SS90 2388, .str SS75 2389, .str SS130 2390, .str SS133 2391, .str SS138 2392] 0, #[]⟩
def o815 (P : Params) : Obj := ⟨.type TS4, none, .dict #[⟨PyData.keyHash P SS40, .str SS40 2393, .ref 200⟩] 1, #[]⟩
def o816 : Obj := ⟨.type TS2, none, .seq #[.str SS73 2406, .str SS90 2407, .str SS75 2408, .str SS130 2409, .str SS133 2410, .str SS138 2411] 0, #[]⟩
def o817 (P : Params) : Obj := ⟨.type TS4, none, .dict #[⟨PyData.keyHash P SS40, .str SS40 2412, .ref 207⟩] 1, #[]⟩
def o818 : Obj := ⟨.type TS2, none, .seq #[.str SS73 2425, .str SS90 2426, .str SS75 2427, .str SS130 2428, .str SS133 2429, .str SS138 2430] 0, #[]⟩
def o819 (P : Params) : Obj := ⟨.type TS4, none, .dict #[⟨PyData.keyHash P SS40, .str SS40 2431, .ref 214⟩] 1, #[]⟩
def o820 : Obj := ⟨.type TS2, none, .seq #[.str SS73 2444, .str SS90 2445, .str SS75 2446, .str SS130 2447, .str SS133 2448, .str SS138 2449] 0, #[]⟩
def o821 (P : Params) : Obj := ⟨.type TS4, none, .dict #[⟨PyData.keyHash P SS40, .str SS40 2450, .ref 221⟩] 1, #[]⟩
def o822 : Obj := ⟨.type TS2, none, .seq #[.str SS73 2463, .str SS90 2464, .str SS75 2465, .str SS130 2466, .str SS133 2467, .str SS138 2468] 0, #[]⟩
def o823 (P : Params) : Obj := ⟨.type TS4, none, .dict #[⟨PyData.keyHash P SS40, .str SS40 2469, .ref 235⟩] 1, #[]⟩
def o824 : Obj := ⟨.type TS2, none, .seq #[.str SS73 2482, .str SS90 2483, .str SS75 2484, .str SS130 2485, .str SS133 2486, .str SS138 2487] 0, #[]⟩
def o825 (P : Params) : Obj := ⟨.type TS4, none, .dict #[⟨PyData.keyHash P SS40, .str SS40 2488, .ref 242⟩] 1, #[]⟩
def o826 : Obj := ⟨.type TS2, none, .seq #[.str SS73 2501, .str SS90 2502, .str SS75 2503, .str SS130 2504, .str SS133 2505, .str SS138 2506] 0, #[]⟩
def o827 (P : Params) : Obj := ⟨.type TS4, none, .dict #[⟨PyData.keyHash P SS40, .str SS40 2507, .ref 249⟩] 1, #[]⟩
def o828 : Obj := ⟨.type TS2, none, .seq #[.str SS73 2520, .str SS90 2521, .str SS75 2522, .str SS130 2523, .str SS133 2524, .str SS138 2525] 0, #[]⟩
def o829 (P : Params) : Obj := ⟨.type TS4, none, .dict #[⟨PyData.keyHash P SS40, .str SS40 2526, .ref 260⟩] 1, #[]⟩
def o830 : Obj := ⟨.type TS2, none, .seq #[.str SS73 2539, .str SS90 2540, .str SS75 2541, .str SS130 2542, .str SS133 2543, .str SS138 2544] 0, #[]⟩
def o831 (P : Params) : Obj := ⟨.type TS4, none, .dict #[⟨PyData.keyHash P SS40, .str SS40 2545, .ref 267⟩] 1, #[]⟩
def o832 : Obj := ⟨.type TS2, none, .seq #[.str SS73 2558, .str SS90 2559, .str SS75 2560, .str SS130 2561, .str SS133 2562, .str SS138 2563] 0, #[]⟩
def o833 (P : Params) : Obj := ⟨.type TS4, none, .dict #[⟨PyData.keyHash P SS40, .str SS40 2564, .ref 281⟩] 1, #[]⟩
def o834 : Obj := ⟨.type TS2, none, .seq #[.str SS73 2577, .str SS90 2578, .str SS75 2579, .str SS130 2580, .str SS133 2581, .str SS138 2582] 0, #[]⟩
def o835 (P : Params) : Obj := ⟨.type TS4, none, .dict #[⟨PyData.keyHash P SS40, .str SS40 2583, .ref 288⟩] 1, #[]⟩
def o836 : Obj := ⟨.type TS2, none, .seq #[.str SS73 2596, .str SS90 2597, .str SS75 2598, .str SS130 2599, .str SS133 2600, .str SS138 2601] 0, #[]⟩
def o837 (P : Params) : Obj := ⟨.type TS4, none, .dict #[⟨PyData.keyHash P SS40, .str SS40 2602, .ref 295⟩] 1, #[]⟩
def o838 : Obj := ⟨.type TS2, none, .seq #[.str SS73 2615, .str SS90 2616, .str SS75 2617, .str SS130 2618, .str SS133 2619, .str SS138 2620] 0, #[]⟩
def o839 (P : Params) : Obj := ⟨.type TS4, none, .dict #[⟨PyData.keyHash P SS40, .str SS40 2621, .ref 309⟩] 1, #[]⟩
def o840 : Obj := ⟨.type TS2, none, .seq #[.str SS73 2634, .str SS90 2635, .str SS75 2636, .str SS130 2637, .str SS133 2638, .str SS138 2639] 0, #[]⟩
def o841 (P : Params) : Obj := ⟨.type TS4, none, .dict #[⟨PyData.keyHash P SS40, .str SS40 2640, .ref 320⟩] 1, #[]⟩
def o842 : Obj := ⟨.type TS2, none, .seq #[.str SS73 2653, .str SS90 2654, .str SS75 2655, .str SS130 2656, .str SS133 2657, .str SS138 2658] 0, #[]⟩
def o843 (P : Params) : Obj := ⟨.type TS4, none, .dict #[⟨PyData.keyHash P SS40, .str SS40 2659, .ref 327⟩] 1, #[]⟩
def o844 : Obj := ⟨.type TS2, none, .seq #[.str SS73 2672, .str SS90 2673, .str SS75 2674, .str SS130 2675, .str SS133 2676, .str SS138 2677] 0, #[]⟩
def o845 (P : Params) : Obj := ⟨.type TS4, none, .dict #[⟨PyData.keyHash P SS40, .str SS40 2678, .ref 334⟩] 1, #[]⟩
def o149d (P : Params) : Obj := ⟨.type TS0, none, .dict #[⟨PyData.keyHash P SS33, .str SS33 416, .str SS1 265⟩, ⟨PyData.keyHash P SS35, .str SS35 418, .str SS66 417⟩, ⟨PyData.keyHash P SS36, .str SS36 420, .int 76 419⟩, ⟨PyData.keyHash P SS142, .str SS142 1882, .ref 167⟩, ⟨PyData.keyHash P SS151, .str SS151 2060, .ref 734⟩, ⟨PyData.keyHash P SS152, .str SS152 2303, .ref 739⟩, ⟨PyData.keyHash P SS154, .str SS154 3095, .ref 803⟩] 7, #[]⟩
def o803a : Obj := ⟨.type TS0, none, .dict #[⟨103, .int 103 2345, .ref 165⟩, ⟨99, .int 99 2364, .ref 178⟩, ⟨4195, .int 4195 2383, .ref 185⟩, ⟨16483, .int 16483 2402, .ref 200⟩, ⟨20579, .int 20579 2421, .ref 207⟩, ⟨24675, .int 24675 2440, .ref 214⟩, ⟨28771, .int 28771 2459, .ref 221⟩, ⟨3, .int 3 2478, .ref 235⟩, ⟨4099, .int 4099 2497, .ref 242⟩, ⟨8195, .int 8195 2516, .ref 249⟩, ⟨16387, .int 16387 2535, .ref 260⟩, ⟨20483, .int 20483 2554, .ref 267⟩, ⟨35, .int 35 2573, .ref 281⟩, ⟨4131, .int 4131 2592, .ref 288⟩, ⟨8227, .int 8227 2611, .ref 295⟩, ⟨19, .int 19 2630, .ref 309⟩, ⟨8211, .int 8211 2649, .ref 320⟩, ⟨12307, .int 12307 2668, .ref 327⟩, ⟨16403, .int 16403 2687, .ref 334⟩, ⟨24595, .int 24595 2706, .ref 345⟩, ⟨28691, .int 28691 2725, .ref 352⟩, ⟨15, .int 15 2912, .ref 600⟩, ⟨4111, .int 4111 2931, .ref 607⟩, ⟨4211, .int 4211 2950, .ref 625⟩, ⟨8307, .int 8307 2969, .ref 632⟩, ⟨12403, .int 12403 2988, .ref 639⟩, ⟨20595, .int 20595 3007, .ref 673⟩, ⟨24691, .int 24691 3026, .ref 680⟩, ⟨28787, .int 28787 3045, .ref 687⟩] 29, #[]⟩
def o846 : Obj := ⟨.type TS2, none, .seq #[.str SS73 2691, .str SS90 2692, .str SS75 2693, .str SS130 2694, .str SS133 2695, .str SS138 2696] 0, #[]⟩
def o847 (P : Params) : Obj := ⟨.type TS4, none, .dict #[⟨PyData.keyHash P SS40, .str SS40 2697, .ref 345⟩] 1, #[]⟩
def o848 : Obj := ⟨.type TS2, none, .seq #[.str SS73 2710, .str SS90 2711, .str SS75 2712, .str SS130 2713, .str SS133 2714, .str SS138 2715] 0, #[]⟩
def o849 (P : Params) : Obj := ⟨.type TS4, none, .dict #[⟨PyData.keyHash P SS40, .str SS40 2716, .ref 352⟩] 1, #[]⟩
def o850 : Obj := ⟨.type TS2, none, .seq #[.str SS73 2729, .str SS90 2730, .str SS75 2731, .str SS130 2732, .str SS133 2733, .str SS138 2734] 0, #[]⟩
def o851 : Obj := ⟨.type TS2, none, .seq #[.str SS73 2737, .str SS90 2738, .str SS75 2739, .str SS130 2740, .str SS133 2741, .str SS138 2742] 0, #[]⟩
def o852 : Obj := ⟨.type TS2, none, .seq #[.str SS73 2745, .str SS90 2746, .str SS75 2747, .str SS130 2748, .str SS133 2749, .str SS138 2750] 0, #[]⟩
def o853 : Obj := ⟨.type TS2, none, .seq #[.str SS73 2753, .str SS90 2754, .str SS75 2755, .str SS130 2756, .str SS133 2757, .str SS138 2758] 0, #[]⟩
def o854 : Obj := ⟨.type TS2, none, .seq #[.str SS73 2761, .str SS90 2762, .str SS75 2763, .str SS130 2764, .str SS133 2765, .str SS138 2766] 0, #[]⟩
def o855 : Obj := ⟨.type TS2, none, .seq #[.str SS73 2769, .str SS90 2770, .str SS75 2771, .str SS130 2772, .str SS133 2773, .str SS138 2774] 0, #[]⟩
def o856 : Obj := ⟨.type TS2, none, .seq #[.str SS73 2777, .str SS90 2778, .str SS75 2779, .str SS130 2780, .str SS133 2781, .str SS138 2782] 0, #[]⟩
def o857 : Obj := ⟨.type TS2, none, .seq #[.str SS73 2785, .str SS90 2786, .str SS75 2787, .str SS130 2788, .str SS133 2789, .str SS138 2790] 0, #[]⟩
def o858 : Obj := ⟨.type TS2, none, .seq #[.str SS73 2793, .str SS90 2794, .str SS75 2795, .str SS130 2796, .str SS133 2797, .str SS138 2798] 0, #[]⟩
def o859 : Obj := ⟨.type TS2, none, .seq #[.str SS73 2801, .str SS90 2802, .str SS75 2803, .str SS130 2804, .str SS133 2805, .str SS138 2806] 0, #[]⟩
def o860 : Obj := ⟨.type TS2, none, .seq #[.str SS73 2809, .str SS90 2810, .str SS75 2811, .str SS130 2812, .str SS133 2813, .str SS138 2814] 0, #[]⟩
def o861 : Obj := ⟨.type TS2, none, .seq #[.str SS73 2817, .str SS90 2818, .str SS75 2819, .str SS130 2820, .str SS133 2821, .str SS138 2822] 0, #[]⟩
def o862 : Obj := ⟨.type TS2, none, .seq #[.str SS73 2825, .str SS90 2826, .str SS75 2827, .str SS130 2828, .str SS133 2829, .str SS138 2830] 0, #[]⟩
def o863 : Obj := ⟨.type TS2, none, .seq #[.str SS73 2833, .str SS90 2834, .str SS75 2835, .str SS130 2836, .str SS133 2837, .str SS138 2838] 0, #[]⟩
def o864 : Obj := ⟨.type TS2, none, .seq #[.str SS73 2841, .str SS90 2842, .str SS75 2843, .str SS130 2844, .str SS133 2845, .str SS138 2846] 0, #[]⟩
def o865 : Obj := ⟨.type TS2, none, .seq #[.str SS73 2849, .str SS90 2850, .str SS75 2851, .str SS130 2852, .str SS133 2853, .str SS138 2854] 0, #[]⟩
def o866 : Obj := ⟨.type TS2, none, .seq #[.str SS73 2857, .str SS90 2858, .str SS75 2859, .str SS130 2860, .str SS133 2861, .str SS138 2862] 0, #[]⟩
def o867 : Obj := ⟨.type TS2, none, .seq #[.str SS73 2865, .str SS90 2866, .str SS75 2867, .str SS130 2868, .str SS133 2869, .str SS138 2870] 0, #[]⟩
def o868 : Obj := ⟨.type TS2, none, .seq #[.str SS73 2873, .str SS90 2874, .str SS75 2875, .str SS130 2876, .str SS133 2877, .str SS138 2878] 0, #[]⟩
def o869 : Obj := ⟨.type TS2, none, .seq #[.str SS73 2881, .str SS90 2882, .str SS75 2883, .str SS130 2884, .str SS133 2885, .str SS138 2886] 0, #[]⟩
def o870 : Obj := ⟨.type TS2, none, .seq #[.str SS73 2889, .str SS90 2890, .str SS75 2891, .str SS130 2892, .str SS133 2893, .str SS138 2894] 0, #[]⟩
def o871 : Obj := ⟨.type TS2, none, .seq #[.str SS73 2897, .str SS90 2898, .str SS75 2899, .str SS130 2900, .str SS133 2901, .str SS138 2902] 0, #[]⟩
def o872 (P : Params) : Obj := ⟨.type TS4, none, .dict #[⟨PyData.keyHash P SS40, .str SS40 2903, .ref 600⟩] 1, #[]⟩
def o873 : Obj := ⟨.type TS2, none, .seq #[.str SS73 2916, .str SS90 2917, .str SS75 2918, .str SS130 2919, .str SS133 2920, .str SS138 2921] 0, #[]⟩
def o874 (P : Params) : Obj := ⟨.type TS4, none, .dict #[⟨PyData.keyHash P SS40, .str SS40 2922, .ref 607⟩] 1, #[]⟩
def o875 : Obj := ⟨.type TS2, none, .seq #[.str SS73 2935, .str SS90 2936, .str SS75 2937, .str SS130 2938, .str SS133 2939, .str SS138 2940] 0, #[]⟩
def o876 (P : Params) : Obj := ⟨.type TS4, none, .dict #[⟨PyData.keyHash P SS40, .str SS40 2941, .ref 625⟩] 1, #[]⟩
def o877 : Obj := ⟨.type TS2, none, .seq #[.str SS73 2954, .str SS90 2955, .str SS75 2956, .str SS130 2957, .str SS133 2958, .str SS138 2959] 0, #[]⟩
def o878 (P : Params) : Obj := ⟨.type TS4, none, .dict #[⟨PyData.keyHash P SS40, .str SS40 2960, .ref 632⟩] 1, #[]⟩
def o879 : Obj := ⟨.type TS2, none, .seq #[.str SS73 2973, .str SS90 2974, .str SS75 2975, .str SS130 2976, .str SS133 2977, .str SS138 2978] 0, #[]⟩
def o880 (P : Params) : Obj := ⟨.type TS4, none, .dict #[⟨PyData.keyHash P SS40, .str SS40 2979, .ref 639⟩] 1, #[]⟩
def o881 : Obj := ⟨.type TS2, none, .seq #[.str SS73 2992, .str SS90 2993, .str SS75 2994, .str SS130 2995, .str SS133 2996, .str SS138 2997] 0, #[]⟩
def o882 (P : Params) : Obj := ⟨.type TS4, none, .dict #[⟨PyData.keyHash P SS40, .str SS40 2998, .ref 673⟩] 1, #[]⟩
def o883 : Obj := ⟨.type TS2, none, .seq #[.str SS73 3011, .str SS90 3012, .str SS75 3013, .str SS130 3014, .str SS133 3015, .str SS138 3016] 0, #[]⟩
def o884 (P : Params) : Obj := ⟨.type TS4, none, .dict #[⟨PyData.keyHash P SS40, .str SS40 3017, .ref 680⟩] 1, #[]⟩
def o885 : Obj := ⟨.type TS2, none, .seq #[.str SS73 3030, .str SS90 3031, .str SS75 3032, .str SS130 3033, .str SS133 3034, .str SS138 3035] 0, #[]⟩
def o886 (P : Params) : Obj := ⟨.type TS4, none, .dict #[⟨PyData.keyHash P SS40, .str SS40 3036, .ref 687⟩] 1, #[]⟩
def o887 : Obj := ⟨.type TS2, none, .seq #[.str SS73 3049, .str SS90 3050, .str SS75 3051, .str SS130 3052, .str SS133 3053, .str SS138 3054] 0, #[]⟩
def o888 : Obj := ⟨.type TS2, none, .seq #[.str SS73 3057, .str SS90 3058, .str SS75 3059, .str SS130 3060, .str SS133 3061, .str SS138 3062] 0, #[]⟩
def o889 : Obj := ⟨.type TS2, none, .seq #[.str SS73 3065, .str SS90 3066, .str SS75 3067, .str SS130 3068, .str SS133 3069, .str SS138 3070] 0, #[]⟩
def o890 : Obj := ⟨.type TS2, none, .seq #[.str SS73 3073, .str SS90 3074, .str SS75 3075, .str SS130 3076, .str SS133 3077, .str SS138 3078] 0, #[]⟩
def o891 : Obj := ⟨.type TS2, none, .seq #[.str SS73 3081, .str SS90 3082, .str SS75 3083, .str SS130 3084, .str SS133 3085, .str SS138 3086] 0, #[]⟩
def o892 : Obj := ⟨.type TS2, none, .seq #[.str SS73 3089, .str SS90 3090, .str SS75 3091, .str SS130 3092, .str SS133 3093, .str SS138 3094] 0, #[]⟩
def o894 : Obj := gf 893
def o895 : Obj := ⟨.type TS22, none, .fields #[.ref 167, .int 32 0], #[]⟩
def o896 : Obj := ⟨.type TS0, none, .dict #[⟨4115, .int 4115 3230, .ref 370⟩, ⟨20499, .int 20499 3246, .ref 389⟩, ⟨1073762323, .int 1073762323 3262, .ref 423⟩, ⟨51, .int 51 3278, .ref 437⟩, ⟨4147, .int 4147 3294, .ref 444⟩, ⟨8243, .int 8243 3310, .ref 451⟩, ⟨12339, .int 12339 3326, .ref 458⟩, ⟨16435, .int 16435 3342, .ref 465⟩] 8, #[]⟩
def o897 (P : Params) : Obj := ⟨.type TS0, none, .dict #[⟨PyData.keyHash P SS153, .str SS153 3096, .ref 465⟩] 1, #[]⟩
def o898 : Obj := ⟨.type TS2, none, .seq #[.str SS108 3098, .str SS102 3099, .str SS145 3100] 0, #[]⟩
def o899 : Obj := ⟨.type TS2, none, .seq #[.str SS108 3103, .str SS102 3104, .str SS145 3105] 0, #[]⟩
def o900 : Obj := ⟨.type TS2, none, .seq #[.str SS108 3108, .str SS102 3109, .str SS145 3110] 0, #[]⟩
def o901 : Obj := ⟨.type TS2, none, .seq #[.str SS108 3113, .str SS102 3114, .str SS145 3115] 0, #[]⟩
def o902 : Obj := ⟨.type TS2, none, .seq #[.str SS108 3118, .str SS102 3119, .str SS145 3120] 0, #[]⟩
def o903 : Obj := ⟨.type TS2, none, .seq #[.str SS108 3123, .str SS102 3124, .str SS145 3125] 0, #[]⟩
def o904 : Obj := ⟨.type TS2, none, .seq #[.str SS108 3128, .str SS102 3129, .str SS145 3130] 0, #[]⟩
def o905 : Obj := ⟨.type TS2, none, .seq #[.str SS108 3133, .str SS102 3134, .str SS145 3135] 0, #[]⟩
def o906 : Obj := ⟨.type TS2, none, .seq #[.str SS108 3138, .str SS102 3139, .str SS145 3140] 0, #[]⟩
def o907 : Obj := ⟨.type TS2, none, .seq #[.str SS108 3143, .str SS102 3144, .str SS145 3145] 0, #[]⟩
def o908 : Obj := ⟨.type TS2, none, .seq #[.str SS108 3148, .str SS102 3149, .str SS145 3150] 0, #[]⟩
def o909 : Obj := ⟨.type TS2, none, .seq #[.str SS108 3153, .str SS102 3154, .str SS145 3155] 0, #[]⟩
def o910 : Obj := ⟨.type TS2, none, .seq #[.str SS108 3158, .str SS102 3159, .str SS145 3160] 0, #[]⟩
def o911 : Obj := ⟨.type TS2, none, .seq #[.str SS108 3163, .str SS102 3164, .str SS145 3165] 0, #[]⟩
def o912 : Obj := ⟨.type TS2, none, .seq #[.str SS108 3168, .str SS102 3169, .str SS145 3170] 0, #[]⟩
def o913 : Obj := ⟨.type TS2, none, .seq #[.str SS108 3173, .str SS102 3174, .str SS145 3175] 0, #[]⟩
def o914 : Obj := ⟨.type TS2, none, .seq #[.str SS108 3178, .str SS102 3179, .str SS145 3180] 0, #[]⟩
def o915 : Obj := ⟨.type TS2, none, .seq #[.str SS108 3183, .str SS102 3184, .str SS145 3185] 0, #[]⟩
def o916 : Obj := ⟨.type TS2, none, .seq #[.str SS108 3188, .str SS102 3189, .str SS145 3190] 0, #[]⟩
def o917 : Obj := ⟨.type TS2, none, .seq #[.str SS108 3193, .str SS102 3194, .str SS145 3195] 0, #[]⟩
def o918 : Obj := ⟨.type TS2, none, .seq #[.str SS108 3198, .str SS102 3199, .str SS145 3200] 0, #[]⟩
def o919 : Obj := ⟨.type TS2, none, .seq #[.str SS108 3203, .str SS102 3204, .str SS145 3205] 0, #[]⟩
def o920 : Obj := ⟨.type TS2, none, .seq #[.str SS108 3208, .str SS102 3209, .str SS145 3210] 0, #[]⟩
def o921 : Obj := ⟨.type TS2, none, .seq #[.str SS108 3213, .str SS102 3214, .str SS145 3215] 0, #[]⟩
def o922 : Obj := ⟨.type TS2, none, .seq #[.str SS108 3218, .str SS102 3219, .str SS145 3220] 0, #[]⟩
def o923 (P : Params) : Obj := ⟨.type TS4, none, .dict #[⟨PyData.keyHash P SS40, .str SS40 3221, .ref 370⟩] 1, #[]⟩
def o924 : Obj := ⟨.type TS2, none, .seq #[.str SS108 3234, .str SS102 3235, .str SS145 3236] 0, #[]⟩
def o925 (P : Params) : Obj := ⟨.type TS4, none, .dict #[⟨PyData.keyHash P SS40, .str SS40 3237, .ref 389⟩] 1, #[]⟩
def o926 : Obj := ⟨.type TS2, none, .seq #[.str SS108 3250, .str SS102 3251, .str SS145 3252] 0, #[]⟩
def o927 (P : Params) : Obj := ⟨.type TS4, none, .dict #[⟨PyData.keyHash P SS40, .str SS40 3253, .ref 423⟩] 1, #[]⟩
def o928 : Obj := ⟨.type TS2, none, .seq #[.str SS108 3266, .str SS102 3267, .str SS145 3268] 0, #[]⟩
def o929 (P : Params) : Obj := ⟨.type TS4, none, .dict #[⟨PyData.keyHash P SS40, .str SS40 3269, .ref 437⟩] 1, #[]⟩
def o930 : Obj := ⟨.type TS2, none, .seq #[.str SS108 3282, .str SS102 3283, .str SS145 3284] 0, #[]⟩
def o931 (P : Params) : Obj := ⟨.type TS4, none, .dict #[⟨PyData.keyHash P SS40, .str SS40 3285, .ref 444⟩] 1, #[]⟩
def o932 : Obj := ⟨.type TS2, none, .seq #[.str SS108 3298, .str SS102 3299, .str SS145 3300] 0, #[]⟩
def o933 (P : Params) : Obj := ⟨.type TS4, none, .dict #[⟨PyData.keyHash P SS40, .str SS40 3301, .ref 451⟩] 1, #[]⟩
def o934 : Obj := ⟨.type TS2, none, .seq #[.str SS108 3314, .str SS102 3315, .str SS145 3316] 0, #[]⟩
def o935 (P : Params) : Obj := ⟨.type TS4, none, .dict #[⟨PyData.keyHash P SS40, .str SS40 3317, .ref 458⟩] 1, #[]⟩
def o936 : Obj := ⟨.type TS2, none, .seq #[.str SS108 3330, .str SS102 3331, .str SS145 3332] 0, #[]⟩
def o937 (P : Params) : Obj := ⟨.type TS4, none, .dict #[⟨PyData.keyHash P SS40, .str SS40 3333, .ref 465⟩] 1, #[]⟩
def o149e (P : Params) : Obj := ⟨.type TS0, none, .dict #[⟨PyData.keyHash P SS33, .str SS33 416, .str SS1 265⟩, ⟨PyData.keyHash P SS35, .str SS35 418, .str SS66 417⟩, ⟨PyData.keyHash P SS36, .str SS36 420, .int 76 419⟩, ⟨PyData.keyHash P SS142, .str SS142 1882, .ref 167⟩, ⟨PyData.keyHash P SS151, .str SS151 2060, .ref 734⟩, ⟨PyData.keyHash P SS152, .str SS152 2303, .ref 739⟩, ⟨PyData.keyHash P SS154, .str SS154 3095, .ref 803⟩, ⟨PyData.keyHash P SS155, .str SS155 3633, .ref 896⟩] 8, #[]⟩
def o896a : Obj := ⟨.type TS0, none, .dict #[⟨4115, .int 4115 3230, .ref 370⟩, ⟨20499, .int 20499 3246, .ref 389⟩, ⟨1073762323, .int 1073762323 3262, .ref 423⟩, ⟨51, .int 51 3278, .ref 437⟩, ⟨4147, .int 4147 3294, .ref 444⟩, ⟨8243, .int 8243 3310, .ref 451⟩, ⟨12339, .int 12339 3326, .ref 458⟩, ⟨16435, .int 16435 3342, .ref 465⟩, ⟨20531, .int 20531 3358, .ref 472⟩, ⟨24627, .int 24627 3374, .ref 479⟩, ⟨28723, .int 28723 3390, .ref 486⟩, ⟨1073741875, .int 1073741875 3406, .ref 500⟩, ⟨1073762355, .int 1073762355 3422, .ref 523⟩, ⟨33554483, .int 33554483 3438, .ref 537⟩, ⟨33558579, .int 33558579 3454, .ref 544⟩, ⟨33562675, .int 33562675 3470, .ref 551⟩, ⟨33566771, .int 33566771 3486, .ref 558⟩, ⟨33570867, .int 33570867 3502, .ref 565⟩, ⟨33574963, .int 33574963 3518, .ref 572⟩, ⟨33579059, .int 33579059 3534, .ref 579⟩, ⟨33583155, .int 33583155 3550, .ref 586⟩, ⟨301990003, .int 301990003 3606, .ref 692⟩] 22, #[]⟩
def o938 : Obj := ⟨.type TS2, none, .seq #[.str SS108 3346, .str SS102 3347, .str SS145 3348] 0, #[]⟩
def o939 (P : Params) : Obj := ⟨.type TS4, none, .dict #[⟨PyData.keyHash P SS40, .str SS40 3349, .ref 472⟩] 1, #[]⟩
def o940 : Obj := ⟨.type TS2, none, .seq #[.str SS108 3362, .str SS102 3363, .str SS145 3364] 0, #[]⟩
def o941 (P : Params) : Obj := ⟨.type TS4, none, .dict #[⟨PyData.keyHash P SS40, .str SS40 3365, .ref 479⟩] 1, #[]⟩
def o942 : Obj := ⟨.type TS2, none, .seq #[.str SS108 3378, .str SS102 3379, .str SS145 3380] 0, #[]⟩
def o943 (P : Params) : Obj := ⟨.type TS4, none, .dict #[⟨PyData.keyHash P SS40, .str SS40 3381, .ref 486⟩] 1, #[]⟩
def o944 : Obj := ⟨.type TS2, none, .seq #[.str SS108 3394, .str SS102 3395, .str SS145 3396] 0, #[]⟩
def o945 (P : Params) : Obj := ⟨.type TS4, none, .dict #[⟨PyData.keyHash P SS40, .str SS40 3397, .ref 500⟩] 1, #[]⟩
def o946 : Obj := ⟨.type TS2, none, .seq #[.str SS108 3410, .str SS102 3411, .str SS145 3412] 0, #[]⟩
def o947 (P : Params) : Obj := ⟨.type TS4, none, .dict #[⟨PyData.keyHash P SS40, .str SS40 3413, .ref 523⟩] 1, #[]⟩
def o948 : Obj := ⟨.type TS2, none, .seq #[.str SS108 3426, .str SS102 3427, .str SS145 3428] 0, #[]⟩
def o949 (P : Params) : Obj := ⟨.type TS4, none, .dict #[⟨PyData.keyHash P SS40, .str SS40 3429, .ref 537⟩] 1, #[]⟩
def o950 : Obj := ⟨.type TS2, none, .seq #[.str SS108 3442, .str SS102 3443, .str SS145 3444] 0, #[]⟩
def o951 (P : Params) : Obj := ⟨.type TS4, none, .dict #[⟨PyData.keyHash P SS40, .str SS40 3445, .ref 544⟩] 1, #[]⟩
def o952 : Obj := ⟨.type TS2, none, .seq #[.str SS108 3458, .str SS102 3459, .str SS145 3460] 0, #[]⟩
def o953 (P : Params) : Obj := ⟨.type TS4, none, .dict #[⟨PyData.keyHash P SS40, .str SS40 3461, .ref 551⟩] 1, #[]⟩
def o954 : Obj := ⟨.type TS2, none, .seq #[.str SS108 3474, .str SS102 3475, .str SS145 3476] 0, #[]⟩
def o955 (P : Params) : Obj := ⟨.type TS4, none, .dict #[⟨PyData.keyHash P SS40, .str SS40 3477, .ref 558⟩] 1, #[]⟩
def o956 : Obj := ⟨.type TS2, none, .seq #[.str SS108 3490, .str SS102 3491, .str SS145 3492] 0, #[]⟩
def o957 (P : Params) : Obj := ⟨.type TS4, none, .dict #[⟨PyData.keyHash P SS40, .str SS40 3493, .ref 565⟩] 1, #[]⟩
def o958 : Obj := ⟨.type TS2, none, .seq #[.str SS108 3506, .str SS102 3507, .str SS145 3508] 0, #[]⟩
def o959 (P : Params) : Obj := ⟨.type TS4, none, .dict #[⟨PyData.keyHash P SS40, .str SS40 3509, .ref 572⟩] 1, #[]⟩
def o960 : Obj := ⟨.type TS2, none, .seq #[.str SS108 3522, .str SS102 3523, .str SS145 3524] 0, #[]⟩
def o961 (P : Params) : Obj := ⟨.type TS4, none, .dict #[⟨PyData.keyHash P SS40, .str SS40 3525, .ref 579⟩] 1, #[]⟩
def o962 : Obj := ⟨.type TS2, none, .seq #[.str SS108 3538, .str SS102 3539, .str SS145 3540] 0, #[]⟩
def o963 (P : Params) : Obj := ⟨.type TS4, none, .dict #[⟨PyData.keyHash P SS40, .str SS40 3541, .ref 586⟩] 1, #[]⟩
def o964 : Obj := ⟨.type TS2, none, .seq #[.str SS108 3554, .str SS102 3555, .str SS145 3556] 0, #[]⟩
def o965 : Obj := ⟨.type TS2, none, .seq #[.str SS108 3559, .str SS102 3560, .str SS145 3561] 0, #[]⟩
def o966 : Obj := ⟨.type TS2, none, .seq #[.str SS108 3564, .str SS102 3565, .str SS145 3566] 0, #[]⟩
def o967 : Obj := ⟨.type TS2, none, .seq #[.str SS108 3569, .str SS102 3570, .str SS145 3571] 0, #[]⟩
def o968 : Obj := ⟨.type TS2, none, .seq #[.str SS108 3574, .str SS102 3575, .str SS145 3576] 0, #[]⟩
def o969 : Obj := ⟨.type TS2, none, .seq #[.str SS108 3579, .str SS102 3580, .str SS145 3581] 0, #[]⟩
def o970 : Obj := ⟨.type TS2, none, .seq #[.str SS108 3584, .str SS102 3585, .str SS145 3586] 0, #[]⟩
def o971 : Obj := ⟨.type TS2, none, .seq #[.str SS108 3589, .str SS102 3590, .str SS145 3591] 0, #[]⟩
def o972 : Obj := ⟨.type TS2, none, .seq #[.str SS108 3594, .str SS102 3595, .str SS145 3596] 0, #[]⟩
def o973 (P : Params) : Obj := ⟨.type TS4, none, .dict #[⟨PyData.keyHash P SS40, .str SS40 3597, .ref 692⟩] 1, #[]⟩
def o974 : Obj := ⟨.type TS2, none, .seq #[.str SS108 3610, .str SS102 3611, .str SS145 3612] 0, #[]⟩
def o975 : Obj := ⟨.type TS2, none, .seq #[.str SS108 3615, .str SS102 3616, .str SS145 3617] 0, #[]⟩
def o976 : Obj := ⟨.type TS2, none, .seq #[.str SS108 3620, .str SS102 3621, .str SS145 3622] 0, #[]⟩
def o977 : Obj := ⟨.type TS2, none, .seq #[.str SS108 3625, .str SS102 3626, .str SS145 3627] 0, #[]⟩
def o978 : Obj := ⟨.type TS2, none, .seq #[.str SS108 3630, .str SS102 3631, .str SS145 3632] 0, #[]⟩
def o980 : Obj := gf 979
def o3a (P : Params) : Obj := ⟨.type TS0, none, .dict #[⟨PyData.keyHash P SS0, .str SS0 165, .str SS156 4018⟩, ⟨PyData.keyHash P SS2, .str SS2 166, .none⟩, ⟨PyData.keyHash P SS3, .str SS3 167, .none⟩, ⟨PyData.keyHash P SS4, .str SS4 168, .builtin TS1⟩, ⟨PyData.keyHash P SS5, .str SS5 169, .none⟩, ⟨PyData.keyHash P SS6, .str SS6 170, .ref 6⟩, ⟨PyData.keyHash P SS7, .str SS7 171, .ref 4⟩, ⟨PyData.keyHash P SS8, .str SS8 173, .str SS9 172⟩, ⟨PyData.keyHash P SS10, .str SS10 174, .none⟩, ⟨PyData.keyHash P SS11, .str SS11 193, .ref 21⟩, ⟨PyData.keyHash P SS12, .str SS12 223, .ref 39⟩, ⟨PyData.keyHash P SS13, .str SS13 239, .ref 52⟩, ⟨PyData.keyHash P SS14, .str SS14 264, .ref 71⟩, ⟨PyData.keyHash P SS15, .str SS15 268, .int 3 267⟩, ⟨PyData.keyHash P SS16, .str SS16 270, .int 15 269⟩, ⟨PyData.keyHash P SS17, .str SS17 272, .int 19 271⟩, ⟨PyData.keyHash P SS18, .str SS18 274, .int 23 273⟩, ⟨PyData.keyHash P SS19, .str SS19 276, .int 35 275⟩, ⟨PyData.keyHash P SS20, .str SS20 278, .int 51 277⟩, ⟨PyData.keyHash P SS21, .str SS21 280, .int 55 279⟩, ⟨PyData.keyHash P SS22, .str SS22 282, .int 99 281⟩, ⟨PyData.keyHash P SS23, .str SS23 284, .int 103 283⟩, ⟨PyData.keyHash P SS24, .str SS24 286, .int 111 285⟩, ⟨PyData.keyHash P SS25, .str SS25 288, .int 115 287⟩, ⟨PyData.keyHash P SS26, .str SS26 339, .ref 98⟩, ⟨PyData.keyHash P SS27, .str SS27 385, .ref 127⟩, ⟨PyData.keyHash P SS28, .str SS28 399, .ref 139⟩, ⟨PyData.keyHash P SS29, .str SS29 408, .ref 146⟩, ⟨PyData.keyHash P SS66, .str SS66 3829, .ref 988⟩, ⟨PyData.keyHash P SS157, .str SS157 3884, .ref 993⟩, ⟨PyData.keyHash P SS158, .str SS158 3929, .ref 1006⟩, ⟨PyData.keyHash P SS159, .str SS159 3936, .ref 1021⟩, ⟨PyData.keyHash P SS160, .str SS160 3951, .ref 1028⟩, ⟨PyData.keyHash P SS161, .str SS161 3958, .ref 1035⟩, ⟨PyData.keyHash P SS162, .str SS162 3965, .ref 1042⟩, ⟨PyData.keyHash P SS163, .str SS163 3976, .ref 1049⟩, ⟨PyData.keyHash P SS164, .str SS164 3984, .ref 1056⟩, ⟨PyData.keyHash P SS165, .str SS165 3992, .ref 1063⟩, ⟨PyData.keyHash P SS166, .str SS166 4003, .ref 1070⟩, ⟨PyData.keyHash P SS167, .str SS167 4017, .ref 1077⟩, ⟨PyData.keyHash P SS168, .str SS168 4028, .ref 1084⟩, ⟨PyData.keyHash P SS169, .str SS169 4034, .ref 1089⟩, ⟨PyData.keyHash P SS170, .str SS170 4040, .ref 1094⟩, ⟨PyData.keyHash P SS171, .str SS171 4050, .ref 1101⟩, ⟨PyData.keyHash P SS172, .str SS172 4064, .ref 1108⟩, ⟨PyData.keyHash P SS173, .str SS173 4075, .ref 1115⟩, ⟨PyData.keyHash P SS174, .str SS174 4085, .ref 1122⟩, ⟨PyData.keyHash P SS175, .str SS175 4091, .ref 1127⟩] 48, #[]⟩
noncomputable def o12b : Obj := ⟨.none, none, .fields #[.int 1 0, .int 0 0, .ref 20, .int 5 0, .int 0 0, .ref 27, .int 10 0, .int 0 0, .ref 48, .int 12 0, .int 0 0, .ref 60, .int 29 0, .int 0 0, .ref 79, .int 41 0, .int 0 0, .ref 108, .int 52 0, .int 0 0, .ref 138, .int 58 0, .int 0 0, .ref 145, .int 76 0, .int 0 0, .ref 152, .int 85 0, .int 0 0, .ref 1020, .int 89 0, .int 0 0, .ref 1027, .int 104 0, .int 0 0, .ref 1034, .int 106 0, .int 0 0, .ref 1041, .int 108 0, .int 0 0, .ref 1048, .int 128 0, .int 0 0, .ref 1055, .int 131 0, .int 0 0, .ref 1062, .int 134 0, .int 0 0, .ref 1069, .int 146 0, .int 0 0, .ref 1076, .int 177 0, .int 0 0, .ref 1083, .int 183 0, .int 0 0, .ref 1088, .int 185 0, .int 0 0, .ref 1093, .int 190 0, .int 0 0, .ref 1100, .int 200 0, .int 0 0, .ref 1107, .int 207 0, .int 0 0, .ref 1114, .int 215 0, .int 0 0, .ref 1121, .int 219 0, .int 0 0, .ref 1126], #[]⟩
def o149f (P : Params) : Obj := ⟨.type TS0, none, .dict #[⟨PyData.keyHash P SS33, .str SS33 416, .str SS1 265⟩, ⟨PyData.keyHash P SS35, .str SS35 418, .str SS66 417⟩, ⟨PyData.keyHash P SS36, .str SS36 420, .int 76 419⟩, ⟨PyData.keyHash P SS142, .str SS142 1882, .ref 167⟩, ⟨PyData.keyHash P SS151, .str SS151 2060, .ref 734⟩, ⟨PyData.keyHash P SS152, .str SS152 2303, .ref 739⟩, ⟨PyData.keyHash P SS154, .str SS154 3095, .ref 803⟩, ⟨PyData.keyHash P SS155, .str SS155 3633, .ref 896⟩, ⟨PyData.keyHash P SS176, .str SS176 3821, .ref 982⟩, ⟨PyData.keyHash P SS38, .str SS38 3822, .ref 986⟩] 10, #[]⟩
def o982 : Obj := ⟨.type TS0, none, .dict #[⟨115, .int 115 1777, .ref 705⟩, ⟨1048691, .int 1048691 1799, .ref 711⟩, ⟨270532723, .int 270532723 1821, .ref 717⟩, ⟨273678451, .int 273678451 1843, .ref 723⟩, ⟨807403635, .int 807403635 1865, .ref 729⟩] 5, #[]⟩
def o985 : Obj := gf 984
def o987 (P : Params) : Obj := ⟨.type TS0, none, .dict #[⟨PyData.keyHash P SS33, .str SS33 416, .str SS1 265⟩, ⟨PyData.keyHash P SS36, .str SS36 420, .int 76 419⟩, ⟨PyData.keyHash P SS142, .str SS142 1882, .ref 167⟩, ⟨PyData.keyHash P SS151, .str SS151 2060, .ref 734⟩, ⟨PyData.keyHash P SS152, .str SS152 2303, .ref 739⟩, ⟨PyData.keyHash P SS154, .str SS154 3095, .ref 803⟩, ⟨PyData.keyHash P SS155, .str SS155 3633, .ref 896⟩, ⟨PyData.keyHash P SS176, .str SS176 3821, .ref 982⟩, ⟨PyData.keyHash P SS38, .str SS38 3822, .ref 986⟩, ⟨PyData.keyHash P SS55, .str SS55 3824, .ref 989⟩, ⟨PyData.keyHash P SS43, .str SS43 3826, .ref 990⟩, ⟨PyData.keyHash P SS2, .str SS2 3827, .none⟩] 4, #[]⟩
def o988 : Obj := ⟨.type TS9, none, .cls ⟨SS66, [.type TS12], [.ref 988, .type TS12], 987, SS66, true, [], [], false, none, false⟩, #[none, none, some (.str SS66 409), some (.str SS66 417), some (.builtin TS18), some (.bool true)]⟩
def o989 : Obj := ⟨.type TS14, none, .fields #[.str SS55 3823, .ref 988, .builtin TS19, .builtin TS20], #[]⟩
def o990 : Obj := ⟨.type TS14, none, .fields #[.str SS43 3825, .ref 988, .builtin TS15, .none], #[]⟩
def o991 : Obj := ⟨.type TS16, none, .fields #[.ref 988, .ref 988, .ref 988], #[]⟩
def o992 : Obj := ⟨.type TS7, none, .fields #[.builtin TS17, .ref 988], #[]⟩
def o993 (P : Params) : Obj := ⟨.type TS0, none, .dict #[⟨PyData.keyHash P SS108, .str SS108 3830, .ref 994⟩, ⟨PyData.keyHash P SS73, .str SS73 3834, .ref 995⟩, ⟨PyData.keyHash P SS90, .str SS90 3838, .ref 996⟩, ⟨PyData.keyHash P SS75, .str SS75 3842, .ref 997⟩, ⟨PyData.keyHash P SS68, .str SS68 3846, .ref 998⟩, ⟨PyData.keyHash P SS71, .str SS71 3849, .ref 999⟩, ⟨PyData.keyHash P SS102, .str SS102 3852, .ref 1000⟩, ⟨PyData.keyHash P SS130, .str SS130 3856, .ref 1001⟩, ⟨PyData.keyHash P SS133, .str SS133 3860, .ref 1002⟩, ⟨PyData.keyHash P SS138, .str SS138 3864, .ref 1003⟩, ⟨PyData.keyHash P SS145, .str SS145 3868, .ref 1004⟩, ⟨PyData.keyHash P SS150, .str SS150 3871, .ref 1005⟩] 12, #[]⟩
def o994 : Obj := ⟨.type TS2, none, .seq #[.str SS48 3831, .str SS49 3832, .str SS50 3833] 0, #[]⟩
def o995 : Obj := ⟨.type TS2, none, .seq #[.str SS48 3835, .str SS49 3836, .str SS51 3837] 0, #[]⟩
def o996 : Obj := ⟨.type TS2, none, .seq #[.str SS49 3839, .str SS50 3840, .str SS51 3841] 0, #[]⟩
def o997 : Obj := ⟨.type TS2, none, .seq #[.str SS49 3843, .str SS50 3844, .str SS51 3845] 0, #[]⟩
def o998 : Obj := ⟨.type TS2, none, .seq #[.str SS48 3847, .str SS51 3848] 0, #[]⟩
def o999 : Obj := ⟨.type TS2, none, .seq #[.str SS48 3850, .str SS51 3851] 0, #[]⟩
def o1000 : Obj := ⟨.type TS2, none, .seq #[.str SS48 3853, .str SS49 3854, .str SS51 3855] 0, #[]⟩
def o1001 : Obj := ⟨.type TS2, none, .seq #[.str SS48 3857, .str SS49 3858, .str SS51 3859] 0, #[]⟩
def o1002 : Obj := ⟨.type TS2, none, .seq #[.str SS48 3861, .str SS49 3862, .str SS52 3863] 0, #[]⟩
def o1003 : Obj := ⟨.type TS2, none, .seq #[.str SS48 3865, .str SS51 3866, .str SS52 3867] 0, #[]⟩
def o1004 : Obj := ⟨.type TS2, none, .seq #[.str SS49 3869, .str SS50 3870] 0, #[]⟩
def o1006 (P : Params) : Obj := ⟨.type TS0, none, .dict #[⟨PyData.keyHash P SS73, .str SS73 3885, .ref 1007⟩, ⟨PyData.keyHash P SS90, .str SS90 3890, .ref 1008⟩, ⟨PyData.keyHash P SS75, .str SS75 3895, .ref 1009⟩, ⟨PyData.keyHash P SS68, .str SS68 3900, .ref 1010⟩, ⟨PyData.keyHash P SS71, .str SS71 3904, .ref 1011⟩, ⟨PyData.keyHash P SS102, .str SS102 3909, .ref 1012⟩, ⟨PyData.keyHash P SS130, .str SS130 3913, .ref 1013⟩, ⟨PyData.keyHash P SS138, .str SS138 3917, .ref 1014⟩] 8, #[]⟩
def o1007 : Obj := ⟨.type TS2, none, .seq #[.int (-2048) 3887, .int 2047 3888, .int 1 3889] 0, #[]⟩
def o1008 : Obj := ⟨.type TS2, none, .seq #[.int (-2048) 3892, .int 2047 3893, .int 1 3894] 0, #[]⟩
def o1009 : Obj := ⟨.type TS2, none, .seq #[.int (-4096) 3897, .int 4094 3898, .int 2 3899] 0, #[]⟩
def o1010 : Obj := ⟨.type TS2, none, .seq #[.int 0 3901, .int 1048575 3902, .int 1 3903] 0, #[]⟩
def o1011 : Obj := ⟨.type TS2, none, .seq #[.int (-1048576) 3906, .int 1048574 3907, .int 2 3908] 0, #[]⟩
def o1012 : Obj := ⟨.type TS2, none, .seq #[.int 0 3910, .int 31 3911, .int 1 3912] 0, #[]⟩
def o1013 : Obj := ⟨.type TS2, none, .seq #[.int 0 3914, .int 4095 3915, .int 1 3916] 0, #[]⟩
def o1014 : Obj := ⟨.type TS2, none, .seq #[.int 0 3918, .int 31 3919, .int 1 3920] 0, #[]⟩
def o1017 : Obj := ⟨.type TS2, none, .seq #[.str SS47 3933] 0, #[]⟩
def o1019 (P : Params) : Obj := ⟨.none, none, .func ⟨SS159, SS159, (fnF 24).1, .stmts (fnF 24).2.1, (fnF 24).2.2, 0, [], .none, .none, .none, .none, none, .none, .none, 0⟩, #[]⟩
def o1020 : Obj := ⟨.type TS3, none, .fields #[.str SS159 3930, .str SS159 3931, .str SS9 3932, .int 85 0, .int 1 0, .int 0 0, .int 0 0, .int 3 0, .ref 1015, .bool true, .int 181 0, .ref 1016, .none, .ref 1017, .ref 1018, .ref 1019, .int 3934 0, .int 85 0, .str SS9 3935], #[]⟩
noncomputable def psF24 : Arguments := by
  refine' (?f : (a : Arguments) → (fnAt 24).1 = a → Arguments) ?_ ?h
  case f => exact fun a _ => a
  case h => conv => lhs; whnf
noncomputable def bdF24 : List Stmt := by
  refine' (?f : (a : List Stmt) → (fnAt 24).2.1 = a → List Stmt) ?_ ?h
  case f => exact fun a _ => a
  case h => conv => lhs; whnf
noncomputable def scF24 : Scope := by
  refine' (?f : (a : Scope) → (fnAt 24).2.2 = a → Scope) ?_ ?h
  case f => exact fun a _ => a
  case h => conv => lhs; whnf
noncomputable def o1021 : Params → Obj := by
  refine' (?f : (a : Params → Obj) → (fun P => (⟨.type TS5, none, .func ⟨SS159, SS159, psF24, .stmts bdF24, scF24, 3, [], .none, .none, .none, .str SS1 265, none, .ref 1020, .none, 0⟩, #[]⟩ : Obj)) = a → Params → Obj) ?_ ?h
  case f => exact fun a _ => a
  case h => conv => lhs; delta psF24 bdF24 scF24; simp -implicitDefEqProofs only [zz]
def o1024 : Obj := ⟨.type TS2, none, .seq #[.str SS177 3940, .str SS57 3941, .str SS178 3942, .str SS179 3943, .str SS47 3944, .str SS65 3945, .str SS180 3946, .str SS181 3947, .str SS182 3948] 0, #[]⟩
def o1026 (P : Params) : Obj := ⟨.none, none, .func ⟨SS160, SS160, (fnF 25).1, .stmts (fnF 25).2.1, (fnF 25).2.2, 0, [], .none, .none, .none, .none, none, .none, .none, 0⟩, #[]⟩
def o1027 : Obj := ⟨.type TS3, none, .fields #[.str SS160 3937, .str SS160 3938, .str SS9 3939, .int 89 0, .int 2 0, .int 0 0, .int 0 0, .int 3 0, .ref 1022, .bool true, .int 181 0, .ref 1023, .none, .ref 1024, .ref 1025, .ref 1026, .int 3949 0, .int 89 0, .str SS9 3950], #[]⟩
noncomputable def psF25 : Arguments := by
  refine' (?f : (a : Arguments) → (fnAt 25).1 = a → Arguments) ?_ ?h
  case f => exact fun a _ => a
  case h => conv => lhs; whnf
noncomputable def bdF25 : List Stmt := by
  refine' (?f : (a : List Stmt) → (fnAt 25).2.1 = a → List Stmt) ?_ ?h
  case f => exact fun a _ => a
  case h => conv => lhs; whnf
noncomputable def scF25 : Scope := by
  refine' (?f : (a : Scope) → (fnAt 25).2.2 = a → Scope) ?_ ?h
  case f => exact fun a _ => a
  case h => conv => lhs; whnf
noncomputable def o1028 : Params → Obj := by
  refine' (?f : (a : Params → Obj) → (fun P => (⟨.type TS5, none, .func ⟨SS160, SS160, psF25, .stmts bdF25, scF25, 3, [], .none, .none, .none, .str SS1 265, none, .ref 1027, .none, 0⟩, #[]⟩ : Obj)) = a → Params → Obj) ?_ ?h
  case f => exact fun a _ => a
  case h => conv => lhs; delta psF25 bdF25 scF25; simp -implicitDefEqProofs only [zz]
def o1031 : Obj := ⟨.type TS2, none, .seq #[.str SS51 3955] 0, #[]⟩
def o1033 (P : Params) : Obj := ⟨.none, none, .func ⟨SS161, SS161, (fnF 26).1, .stmts (fnF 26).2.1, (fnF 26).2.2, 0, [], .none, .none, .none, .none, none, .none, .none, 0⟩, #[]⟩
def o1034 : Obj := ⟨.type TS3, none, .fields #[.str SS161 3952, .str SS161 3953, .str SS9 3954, .int 104 0, .int 1 0, .int 0 0, .int 0 0, .int 3 0, .ref 1029, .bool true, .int 181 0, .ref 1030, .none, .ref 1031, .ref 1032, .ref 1033, .int 3956 0, .int 104 0, .str SS9 3957], #[]⟩
noncomputable def psF26 : Arguments := by
  refine' (?f : (a : Arguments) → (fnAt 26).1 = a → Arguments) ?_ ?h
  case f => exact fun a _ => a
  case h => conv => lhs; whnf
noncomputable def bdF26 : List Stmt := by
  refine' (?f : (a : List Stmt) → (fnAt 26).2.1 = a → List Stmt) ?_ ?h
  case f => exact fun a _ => a
  case h => conv => lhs; whnf
noncomputable def scF26 : Scope := by
  refine' (?f : (a : Scope) → (fnAt 26).2.2 = a → Scope) ?_ ?h
  case f => exact fun a _ => a
  case h => conv => lhs; whnf
noncomputable def o1035 : Params → Obj := by
  refine' (?f : (a : Params → Obj) → (fun P => (⟨.type TS5, none, .func ⟨SS161, SS161, psF26, .stmts bdF26, scF26, 3, [], .none, .none, .none, .str SS1 265, none, .ref 1034, .none, 0⟩, #[]⟩ : Obj)) = a → Params → Obj) ?_ ?h
  case f => exact fun a _ => a
  case h => conv => lhs; delta psF26 bdF26 scF26; simp -implicitDefEqProofs only [zz]
def o1038 : Obj := ⟨.type TS2, none, .seq #[.str SS51 3962] 0, #[]⟩
def o1040 (P : Params) : Obj := ⟨.none, none, .func ⟨SS162, SS162, (fnF 27).1, .stmts (fnF 27).2.1, (fnF 27).2.2, 0, [], .none, .none, .none, .none, none, .none, .none, 0⟩, #[]⟩
def o1041 : Obj := ⟨.type TS3, none, .fields #[.str SS162 3959, .str SS162 3960, .str SS9 3961, .int 106 0, .int 1 0, .int 0 0, .int 0 0, .int 3 0, .ref 1036, .bool true, .int 181 0, .ref 1037, .none, .ref 1038, .ref 1039, .ref 1040, .int 3963 0, .int 106 0, .str SS9 3964], #[]⟩
noncomputable def psF27 : Arguments := by
  refine' (?f : (a : Arguments) → (fnAt 27).1 = a → Arguments) ?_ ?h
  case f => exact fun a _ => a
  case h => conv => lhs; whnf
noncomputable def bdF27 : List Stmt := by
  refine' (?f : (a : List Stmt) → (fnAt 27).2.1 = a → List Stmt) ?_ ?h
  case f => exact fun a _ => a
  case h => conv => lhs; whnf
noncomputable def scF27 : Scope := by
  refine' (?f : (a : Scope) → (fnAt 27).2.2 = a → Scope) ?_ ?h
  case f => exact fun a _ => a
  case h => conv => lhs; whnf
noncomputable def o1042 : Params → Obj := by
  refine' (?f : (a : Params → Obj) → (fun P => (⟨.type TS5, none, .func ⟨SS162, SS162, psF27, .stmts bdF27, scF27, 3, [], .none, .none, .none, .str SS1 265, none, .ref 1041, .none, 0⟩, #[]⟩ : Obj)) = a → Params → Obj) ?_ ?h
  case f => exact fun a _ => a
  case h => conv => lhs; delta psF27 bdF27 scF27; simp -implicitDefEqProofs only [zz]
def o1045 : Obj := ⟨.type TS2, none, .seq #[.str SS177 3969, .str SS153 3970, .str SS57 3971, .str SS51 3972, .str SS64 3973] 0, #[]⟩
def o1047 (P : Params) : Obj := ⟨.none, none, .func ⟨SS163, SS163, (fnF 28).1, .stmts (fnF 28).2.1, (fnF 28).2.2, 0, [], .none, .none, .none, .none, none, .none, .none, 0⟩, #[]⟩
def o1048 : Obj := ⟨.type TS3, none, .fields #[.str SS163 3966, .str SS163 3967, .str SS9 3968, .int 108 0, .int 1 0, .int 0 0, .int 0 0, .int 3 0, .ref 1043, .bool true, .int 181 0, .ref 1044, .none, .ref 1045, .ref 1046, .ref 1047, .int 3974 0, .int 108 0, .str SS9 3975], #[]⟩
noncomputable def psF28 : Arguments := by
  refine' (?f : (a : Arguments) → (fnAt 28).1 = a → Arguments) ?_ ?h
  case f => exact fun a _ => a
  case h => conv => lhs; whnf
noncomputable def bdF28 : List Stmt := by
  refine' (?f : (a : List Stmt) → (fnAt 28).2.1 = a → List Stmt) ?_ ?h
  case f => exact fun a _ => a
  case h => conv => lhs; whnf
noncomputable def scF28 : Scope := by
  refine' (?f : (a : Scope) → (fnAt 28).2.2 = a → Scope) ?_ ?h
  case f => exact fun a _ => a
  case h => conv => lhs; whnf
noncomputable def o1049 : Params → Obj := by
  refine' (?f : (a : Params → Obj) → (fun P => (⟨.type TS5, none, .func ⟨SS163, SS163, psF28, .stmts bdF28, scF28, 3, [], .none, .none, .none, .str SS1 265, none, .ref 1048, .none, 0⟩, #[]⟩ : Obj)) = a → Params → Obj) ?_ ?h
  case f => exact fun a _ => a
  case h => conv => lhs; delta psF28 bdF28 scF28; simp -implicitDefEqProofs only [zz]
def o1052 : Obj := ⟨.type TS2, none, .seq #[.str SS44 3980, .str SS183 3981] 0, #[]⟩
def o1054 (P : Params) : Obj := ⟨.none, none, .func ⟨SS164, SS164, (fnF 29).1, .stmts (fnF 29).2.1, (fnF 29).2.2, 0, [], .none, .none, .none, .none, none, .none, .none, 0⟩, #[]⟩
def o1055 : Obj := ⟨.type TS3, none, .fields #[.str SS164 3977, .str SS164 3978, .str SS9 3979, .int 128 0, .int 1 0, .int 0 0, .int 0 0, .int 3 0, .ref 1050, .bool true, .int 181 0, .ref 1051, .none, .ref 1052, .ref 1053, .ref 1054, .int 3982 0, .int 128 0, .str SS9 3983], #[]⟩
noncomputable def psF29 : Arguments := by
  refine' (?f : (a : Arguments) → (fnAt 29).1 = a → Arguments) ?_ ?h
  case f => exact fun a _ => a
  case h => conv => lhs; whnf
noncomputable def bdF29 : List Stmt := by
  refine' (?f : (a : List Stmt) → (fnAt 29).2.1 = a → List Stmt) ?_ ?h
  case f => exact fun a _ => a
  case h => conv => lhs; whnf
noncomputable def scF29 : Scope := by
  refine' (?f : (a : Scope) → (fnAt 29).2.2 = a → Scope) ?_ ?h
  case f => exact fun a _ => a
  case h => conv => lhs; whnf
noncomputable def o1056 : Params → Obj := by
  refine' (?f : (a : Params → Obj) → (fun P => (⟨.type TS5, none, .func ⟨SS164, SS164, psF29, .stmts bdF29, scF29, 3, [], .none, .none, .none, .str SS1 265, none, .ref 1055, .none, 0⟩, #[]⟩ : Obj)) = a → Params → Obj) ?_ ?h
  case f => exact fun a _ => a
  case h => conv => lhs; delta psF29 bdF29 scF29; simp -implicitDefEqProofs only [zz]
def o1059 : Obj := ⟨.type TS2, none, .seq #[.str SS44 3988, .str SS183 3989] 0, #[]⟩
def o1061 (P : Params) : Obj := ⟨.none, none, .func ⟨SS165, SS165, (fnF 30).1, .stmts (fnF 30).2.1, (fnF 30).2.2, 0, [], .none, .none, .none, .none, none, .none, .none, 0⟩, #[]⟩
def o1062 : Obj := ⟨.type TS3, none, .fields #[.str SS165 3985, .str SS165 3986, .str SS9 3987, .int 131 0, .int 1 0, .int 0 0, .int 0 0, .int 3 0, .ref 1057, .bool true, .int 181 0, .ref 1058, .none, .ref 1059, .ref 1060, .ref 1061, .int 3990 0, .int 131 0, .str SS9 3991], #[]⟩
noncomputable def psF30 : Arguments := by
  refine' (?f : (a : Arguments) → (fnAt 30).1 = a → Arguments) ?_ ?h
  case f => exact fun a _ => a
  case h => conv => lhs; whnf
noncomputable def bdF30 : List Stmt := by
  refine' (?f : (a : List Stmt) → (fnAt 30).2.1 = a → List Stmt) ?_ ?h
  case f => exact fun a _ => a
  case h => conv => lhs; whnf
noncomputable def scF30 : Scope := by
  refine' (?f : (a : Scope) → (fnAt 30).2.2 = a → Scope) ?_ ?h
  case f => exact fun a _ => a
  case h => conv => lhs; whnf
noncomputable def o1063 : Params → Obj := by
  refine' (?f : (a : Params → Obj) → (fun P => (⟨.type TS5, none, .func ⟨SS165, SS165, psF30, .stmts bdF30, scF30, 3, [], .none, .none, .none, .str SS1 265, none, .ref 1062, .none, 0⟩, #[]⟩ : Obj)) = a → Params → Obj) ?_ ?h
  case f => exact fun a _ => a
  case h => conv => lhs; delta psF30 bdF30 scF30; simp -implicitDefEqProofs only [zz]
def o1066 : Obj := ⟨.type TS2, none, .seq #[.str SS44 3996, .str SS58 3997, .str SS59 3998, .str SS60 3999, .str SS153 4000] 0, #[]⟩
def o1068 (P : Params) : Obj := ⟨.none, none, .func ⟨SS166, SS166, (fnF 31).1, .stmts (fnF 31).2.1, (fnF 31).2.2, 0, [], .none, .none, .none, .none, none, .none, .none, 0⟩, #[]⟩
def o1069 : Obj := ⟨.type TS3, none, .fields #[.str SS166 3993, .str SS166 3994, .str SS9 3995, .int 134 0, .int 1 0, .int 0 0, .int 0 0, .int 3 0, .ref 1064, .bool true, .int 181 0, .ref 1065, .none, .ref 1066, .ref 1067, .ref 1068, .int 4001 0, .int 134 0, .str SS9 4002], #[]⟩
noncomputable def psF31 : Arguments := by
  refine' (?f : (a : Arguments) → (fnAt 31).1 = a → Arguments) ?_ ?h
  case f => exact fun a _ => a
  case h => conv => lhs; whnf
noncomputable def bdF31 : List Stmt := by
  refine' (?f : (a : List Stmt) → (fnAt 31).2.1 = a → List Stmt) ?_ ?h
  case f => exact fun a _ => a
  case h => conv => lhs; whnf
noncomputable def scF31 : Scope := by
  refine' (?f : (a : Scope) → (fnAt 31).2.2 = a → Scope) ?_ ?h
  case f => exact fun a _ => a
  case h => conv => lhs; whnf
noncomputable def o1070 : Params → Obj := by
  refine' (?f : (a : Params → Obj) → (fun P => (⟨.type TS5, none, .func ⟨SS166, SS166, psF31, .stmts bdF31, scF31, 3, [], .none, .none, .none, .str SS1 265, none, .ref 1069, .none, 0⟩, #[]⟩ : Obj)) = a → Params → Obj) ?_ ?h
  case f => exact fun a _ => a
  case h => conv => lhs; delta psF31 bdF31 scF31; simp -implicitDefEqProofs only [zz]
def o1073 : Obj := ⟨.type TS2, none, .seq #[.str SS44 4007, .str SS153 4008, .str SS57 4009, .str SS48 4010, .str SS49 4011, .str SS50 4012, .str SS184 4013, .str SS183 4014] 0, #[]⟩
def o1075 (P : Params) : Obj := ⟨.none, none, .func ⟨SS167, SS167, (fnF 32).1, .stmts (fnF 32).2.1, (fnF 32).2.2, 0, [], .none, .none, .none, .none, none, .none, .none, 0⟩, #[]⟩
def o1076 : Obj := ⟨.type TS3, none, .fields #[.str SS167 4004, .str SS167 4005, .str SS9 4006, .int 146 0, .int 1 0, .int 0 0, .int 0 0, .int 3 0, .ref 1071, .bool true, .int 181 0, .ref 1072, .none, .ref 1073, .ref 1074, .ref 1075, .int 4015 0, .int 146 0, .str SS9 4016], #[]⟩
noncomputable def psF32 : Arguments := by
  refine' (?f : (a : Arguments) → (fnAt 32).1 = a → Arguments) ?_ ?h
  case f => exact fun a _ => a
  case h => conv => lhs; whnf
noncomputable def bdF32 : List Stmt := by
  refine' (?f : (a : List Stmt) → (fnAt 32).2.1 = a → List Stmt) ?_ ?h
  case f => exact fun a _ => a
  case h => conv => lhs; whnf
noncomputable def scF32 : Scope := by
  refine' (?f : (a : Scope) → (fnAt 32).2.2 = a → Scope) ?_ ?h
  case f => exact fun a _ => a
  case h => conv => lhs; whnf
noncomputable def o1077 : Params → Obj := by
  refine' (?f : (a : Params → Obj) → (fun P => (⟨.type TS5, none, .func ⟨SS167, SS167, psF32, .stmts bdF32, scF32, 3, [], .none, .none, .none, .str SS1 265, none, .ref 1076, .none, 0⟩, #[]⟩ : Obj)) = a → Params → Obj) ?_ ?h
  case f => exact fun a _ => a
  case h => conv => lhs; delta psF32 bdF32 scF32; simp -implicitDefEqProofs only [zz]
def o1080 : Obj := ⟨.type TS2, none, .seq #[.str SS185 4023, .str SS186 4024, .str SS187 4025] 0, #[]⟩
def o1082 (P : Params) : Obj := ⟨.none, none, .func ⟨SS168, SS168, (fnF 34).1, .stmts (fnF 34).2.1, (fnF 34).2.2, 0, [], .none, .none, .none, .none, none, .none, .none, 0⟩, #[]⟩
def o1083 : Obj := ⟨.type TS3, none, .fields #[.str SS168 4020, .str SS168 4021, .str SS9 4022, .int 177 0, .int 2 0, .int 0 0, .int 0 0, .int 3 0, .ref 1078, .bool true, .int 181 0, .ref 1079, .none, .ref 1080, .ref 1081, .ref 1082, .int 4026 0, .int 177 0, .str SS9 4027], #[]⟩
noncomputable def psF34 : Arguments := by
  refine' (?f : (a : Arguments) → (fnAt 34).1 = a → Arguments) ?_ ?h
  case f => exact fun a _ => a
  case h => conv => lhs; whnf
noncomputable def bdF34 : List Stmt := by
  refine' (?f : (a : List Stmt) → (fnAt 34).2.1 = a → List Stmt) ?_ ?h
  case f => exact fun a _ => a
  case h => conv => lhs; whnf
noncomputable def scF34 : Scope := by
  refine' (?f : (a : Scope) → (fnAt 34).2.2 = a → Scope) ?_ ?h
  case f => exact fun a _ => a
  case h => conv => lhs; whnf
noncomputable def o1084 : Params → Obj := by
  refine' (?f : (a : Params → Obj) → (fun P => (⟨.type TS5, none, .func ⟨SS168, SS168, psF34, .stmts bdF34, scF34, 3, [], .none, .none, .none, .str SS156 4018, none, .ref 1083, .none, 0⟩, #[]⟩ : Obj)) = a → Params → Obj) ?_ ?h
  case f => exact fun a _ => a
  case h => conv => lhs; delta psF34 bdF34 scF34; simp -implicitDefEqProofs only [zz]
def o1087 (P : Params) : Obj := ⟨.none, none, .func ⟨SS169, SS169, (fnF 35).1, .stmts (fnF 35).2.1, (fnF 35).2.2, 0, [], .none, .none, .none, .none, none, .none, .none, 0⟩, #[]⟩
def o1088 : Obj := ⟨.type TS3, none, .fields #[.str SS169 4029, .str SS169 4030, .str SS9 4031, .int 183 0, .int 1 0, .int 0 0, .int 0 0, .int 3 0, .ref 1085, .bool true, .int 181 0, .ref 1086, .none, .none, .none, .ref 1087, .int 4032 0, .int 183 0, .str SS9 4033], #[]⟩
noncomputable def psF35 : Arguments := by
  refine' (?f : (a : Arguments) → (fnAt 35).1 = a → Arguments) ?_ ?h
  case f => exact fun a _ => a
  case h => conv => lhs; whnf
noncomputable def bdF35 : List Stmt := by
  refine' (?f : (a : List Stmt) → (fnAt 35).2.1 = a → List Stmt) ?_ ?h
  case f => exact fun a _ => a
  case h => conv => lhs; whnf
noncomputable def scF35 : Scope := by
  refine' (?f : (a : Scope) → (fnAt 35).2.2 = a → Scope) ?_ ?h
  case f => exact fun a _ => a
  case h => conv => lhs; whnf
noncomputable def o1089 : Params → Obj := by
  refine' (?f : (a : Params → Obj) → (fun P => (⟨.type TS5, none, .func ⟨SS169, SS169, psF35, .stmts bdF35, scF35, 3, [], .none, .none, .none, .str SS156 4018, none, .ref 1088, .none, 0⟩, #[]⟩ : Obj)) = a → Params → Obj) ?_ ?h
  case f => exact fun a _ => a
  case h => conv => lhs; delta psF35 bdF35 scF35; simp -implicitDefEqProofs only [zz]
def o1092 (P : Params) : Obj := ⟨.none, none, .func ⟨SS170, SS170, (fnF 36).1, .stmts (fnF 36).2.1, (fnF 36).2.2, 0, [], .none, .none, .none, .none, none, .none, .none, 0⟩, #[]⟩
def o1093 : Obj := ⟨.type TS3, none, .fields #[.str SS170 4035, .str SS170 4036, .str SS9 4037, .int 185 0, .int 0 0, .int 0 0, .int 0 0, .int 3 0, .ref 1090, .bool true, .int 181 0, .ref 1091, .none, .none, .none, .ref 1092, .int 4038 0, .int 185 0, .str SS9 4039], #[]⟩
noncomputable def psF36 : Arguments := by
  refine' (?f : (a : Arguments) → (fnAt 36).1 = a → Arguments) ?_ ?h
  case f => exact fun a _ => a
  case h => conv => lhs; whnf
noncomputable def bdF36 : List Stmt := by
  refine' (?f : (a : List Stmt) → (fnAt 36).2.1 = a → List Stmt) ?_ ?h
  case f => exact fun a _ => a
  case h => conv => lhs; whnf
noncomputable def scF36 : Scope := by
  refine' (?f : (a : Scope) → (fnAt 36).2.2 = a → Scope) ?_ ?h
  case f => exact fun a _ => a
  case h => conv => lhs; whnf
noncomputable def o1094 : Params → Obj := by
  refine' (?f : (a : Params → Obj) → (fun P => (⟨.type TS5, none, .func ⟨SS170, SS170, psF36, .stmts bdF36, scF36, 3, [], .none, .none, .none, .str SS156 4018, none, .ref 1093, .none, 0⟩, #[]⟩ : Obj)) = a → Params → Obj) ?_ ?h
  case f => exact fun a _ => a
  case h => conv => lhs; delta psF36 bdF36 scF36; simp -implicitDefEqProofs only [zz]
def o1097 : Obj := ⟨.type TS2, none, .seq #[.str SS58 4044, .str SS59 4045, .str SS184 4046, .str SS48 4047] 0, #[]⟩
def o1099 (P : Params) : Obj := ⟨.none, none, .func ⟨SS171, SS171, (fnF 37).1, .stmts (fnF 37).2.1, (fnF 37).2.2, 0, [], .none, .none, .none, .none, none, .none, .none, 0⟩, #[]⟩
def o1100 : Obj := ⟨.type TS3, none, .fields #[.str SS171 4041, .str SS171 4042, .str SS9 4043, .int 190 0, .int 4 0, .int 0 0, .int 0 0, .int 3 0, .ref 1095, .bool true, .int 181 0, .ref 1096, .none, .ref 1097, .ref 1098, .ref 1099, .int 4048 0, .int 190 0, .str SS9 4049], #[]⟩
noncomputable def psF37 : Arguments := by
  refine' (?f : (a : Arguments) → (fnAt 37).1 = a → Arguments) ?_ ?h
  case f => exact fun a _ => a
  case h => conv => lhs; whnf
noncomputable def bdF37 : List Stmt := by
  refine' (?f : (a : List Stmt) → (fnAt 37).2.1 = a → List Stmt) ?_ ?h
  case f => exact fun a _ => a
  case h => conv => lhs; whnf
noncomputable def scF37 : Scope := by
  refine' (?f : (a : Scope) → (fnAt 37).2.2 = a → Scope) ?_ ?h
  case f => exact fun a _ => a
  case h => conv => lhs; whnf
noncomputable def o1101 : Params → Obj := by
  refine' (?f : (a : Params → Obj) → (fun P => (⟨.type TS5, none, .func ⟨SS171, SS171, psF37, .stmts bdF37, scF37, 3, [], .none, .none, .none, .str SS156 4018, none, .ref 1100, .none, 0⟩, #[]⟩ : Obj)) = a → Params → Obj) ?_ ?h
  case f => exact fun a _ => a
  case h => conv => lhs; delta psF37 bdF37 scF37; simp -implicitDefEqProofs only [zz]
def o1104 : Obj := ⟨.type TS2, none, .seq #[.str SS188 4054, .str SS189 4055, .str SS190 4056, .str SS58 4057, .str SS48 4058, .str SS59 4059, .str SS184 4060, .str SS47 4061] 0, #[]⟩
def o1106 (P : Params) : Obj := ⟨.none, none, .func ⟨SS172, SS172, (fnF 38).1, .stmts (fnF 38).2.1, (fnF 38).2.2, 0, [], .none, .none, .none, .none, none, .none, .none, 0⟩, #[]⟩
def o1107 : Obj := ⟨.type TS3, none, .fields #[.str SS172 4051, .str SS172 4052, .str SS9 4053, .int 200 0, .int 2 0, .int 0 0, .int 0 0, .int 3 0, .ref 1102, .bool true, .int 181 0, .ref 1103, .none, .ref 1104, .ref 1105, .ref 1106, .int 4062 0, .int 200 0, .str SS9 4063], #[]⟩
noncomputable def psF38 : Arguments := by
  refine' (?f : (a : Arguments) → (fnAt 38).1 = a → Arguments) ?_ ?h
  case f => exact fun a _ => a
  case h => conv => lhs; whnf
noncomputable def bdF38 : List Stmt := by
  refine' (?f : (a : List Stmt) → (fnAt 38).2.1 = a → List Stmt) ?_ ?h
  case f => exact fun a _ => a
  case h => conv => lhs; whnf
noncomputable def scF38 : Scope := by
  refine' (?f : (a : Scope) → (fnAt 38).2.2 = a → Scope) ?_ ?h
  case f => exact fun a _ => a
  case h => conv => lhs; whnf
noncomputable def o1108 : Params → Obj := by
  refine' (?f : (a : Params → Obj) → (fun P => (⟨.type TS5, none, .func ⟨SS172, SS172, psF38, .stmts bdF38, scF38, 3, [], .none, .none, .none, .str SS156 4018, none, .ref 1107, .none, 0⟩, #[]⟩ : Obj)) = a → Params → Obj) ?_ ?h
  case f => exact fun a _ => a
  case h => conv => lhs; delta psF38 bdF38 scF38; simp -implicitDefEqProofs only [zz]
def o1111 : Obj := ⟨.type TS2, none, .seq #[.str SS188 4068, .str SS189 4069, .str SS191 4070, .str SS192 4071, .str SS193 4072] 0, #[]⟩
def o1113 (P : Params) : Obj := ⟨.none, none, .func ⟨SS173, SS173, (fnF 39).1, .stmts (fnF 39).2.1, (fnF 39).2.2, 0, [], .none, .none, .none, .none, none, .none, .none, 0⟩, #[]⟩
def o1114 : Obj := ⟨.type TS3, none, .fields #[.str SS173 4065, .str SS173 4066, .str SS9 4067, .int 207 0, .int 3 0, .int 0 0, .int 0 0, .int 3 0, .ref 1109, .bool true, .int 181 0, .ref 1110, .none, .ref 1111, .ref 1112, .ref 1113, .int 4073 0, .int 207 0, .str SS9 4074], #[]⟩
noncomputable def psF39 : Arguments := by
  refine' (?f : (a : Arguments) → (fnAt 39).1 = a → Arguments) ?_ ?h
  case f => exact fun a _ => a
  case h => conv => lhs; whnf
noncomputable def bdF39 : List Stmt := by
  refine' (?f : (a : List Stmt) → (fnAt 39).2.1 = a → List Stmt) ?_ ?h
  case f => exact fun a _ => a
  case h => conv => lhs; whnf
noncomputable def scF39 : Scope := by
  refine' (?f : (a : Scope) → (fnAt 39).2.2 = a → Scope) ?_ ?h
  case f => exact fun a _ => a
  case h => conv => lhs; whnf
noncomputable def o1115 : Params → Obj := by
  refine' (?f : (a : Params → Obj) → (fun P => (⟨.type TS5, none, .func ⟨SS173, SS173, psF39, .stmts bdF39, scF39, 3, [], .none, .none, .none, .str SS156 4018, none, .ref 1114, .none, 0⟩, #[]⟩ : Obj)) = a → Params → Obj) ?_ ?h
  case f => exact fun a _ => a
  case h => conv => lhs; delta psF39 bdF39 scF39; simp -implicitDefEqProofs only [zz]
def o1118 : Obj := ⟨.type TS2, none, .seq #[.str SS184 4079, .str SS48 4080, .str SS64 4081, .str SS194 4082] 0, #[]⟩
def o1120 (P : Params) : Obj := ⟨.none, none, .func ⟨SS174, SS174, (fnF 40).1, .stmts (fnF 40).2.1, (fnF 40).2.2, 0, [], .none, .none, .none, .none, none, .none, .none, 0⟩, #[]⟩
def o1121 : Obj := ⟨.type TS3, none, .fields #[.str SS174 4076, .str SS174 4077, .str SS9 4078, .int 215 0, .int 2 0, .int 0 0, .int 0 0, .int 3 0, .ref 1116, .bool true, .int 181 0, .ref 1117, .none, .ref 1118, .ref 1119, .ref 1120, .int 4083 0, .int 215 0, .str SS9 4084], #[]⟩
noncomputable def psF40 : Arguments := by
  refine' (?f : (a : Arguments) → (fnAt 40).1 = a → Arguments) ?_ ?h
  case f => exact fun a _ => a
  case h => conv => lhs; whnf
noncomputable def bdF40 : List Stmt := by
  refine' (?f : (a : List Stmt) → (fnAt 40).2.1 = a → List Stmt) ?_ ?h
  case f => exact fun a _ => a
  case h => conv => lhs; whnf
noncomputable def scF40 : Scope := by
  refine' (?f : (a : Scope) → (fnAt 40).2.2 = a → Scope) ?_ ?h
  case f => exact fun a _ => a
  case h => conv => lhs; whnf
noncomputable def o1122 : Params → Obj := by
  refine' (?f : (a : Params → Obj) → (fun P => (⟨.type TS5, none, .func ⟨SS174, SS174, psF40, .stmts bdF40, scF40, 3, [], .none, .none, .none, .str SS156 4018, none, .ref 1121, .none, 0⟩, #[]⟩ : Obj)) = a → Params → Obj) ?_ ?h
  case f => exact fun a _ => a
  case h => conv => lhs; delta psF40 bdF40 scF40; simp -implicitDefEqProofs only [zz]
def o1125 (P : Params) : Obj := ⟨.none, none, .func ⟨SS175, SS175, (fnF 41).1, .stmts (fnF 41).2.1, (fnF 41).2.2, 0, [], .none, .none, .none, .none, none, .none, .none, 0⟩, #[]⟩
def o1126 : Obj := ⟨.type TS3, none, .fields #[.str SS175 4086, .str SS175 4087, .str SS9 4088, .int 219 0, .int 1 0, .int 0 0, .int 0 0, .int 3 0, .ref 1123, .bool true, .int 181 0, .ref 1124, .none, .none, .none, .ref 1125, .int 4089 0, .int 219 0, .str SS9 4090], #[]⟩
noncomputable def psF41 : Arguments := by
  refine' (?f : (a : Arguments) → (fnAt 41).1 = a → Arguments) ?_ ?h
  case f => exact fun a _ => a
  case h => conv => lhs; whnf
noncomputable def bdF41 : List Stmt := by
  refine' (?f : (a : List Stmt) → (fnAt 41).2.1 = a → List Stmt) ?_ ?h
  case f => exact fun a _ => a
  case h => conv => lhs; whnf
noncomputable def scF41 : Scope := by
  refine' (?f : (a : Scope) → (fnAt 41).2.2 = a → Scope) ?_ ?h
  case f => exact fun a _ => a
  case h => conv => lhs; whnf
noncomputable def o1127 : Params → Obj := by
  refine' (?f : (a : Params → Obj) → (fun P => (⟨.type TS5, none, .func ⟨SS175, SS175, psF41, .stmts bdF41, scF41, 3, [], .none, .none, .none, .str SS156 4018, none, .ref 1126, .none, 0⟩, #[]⟩ : Obj)) = a → Params → Obj) ?_ ?h
  case f => exact fun a _ => a
  case h => conv => lhs; delta psF41 bdF41 scF41; simp -implicitDefEqProofs only [zz]
noncomputable abbrev Cfg := Option (SharedT × Thread)
noncomputable def adv (w : World) : Nat → SharedT → Thread → Cfg
  | 0, s, t => some (s, t)
  | n + 1, s, t => match through t with
    | true => none
    | false => match stepOk 11 (some (.ref 6)) t with
      | false => none
      | true => match stepT (denote treeTable) pwF w s t with
        | some (s', t') => adv w n s' t'
        | none => none
noncomputable def endT (w : World) : Nat → SharedT → Thread → Option SharedT
  | 0, _, _ => none
  | n + 1, s, t => match through t with
    | true => some s
    | false => match stepOk 11 (some (.ref 6)) t with
      | false => none
      | true => match stepT (denote treeTable) pwF w s t with
        | some (s', t') => endT w n s' t'
        | none => none
noncomputable abbrev Acc := List Cfg
noncomputable abbrev Out := Option ((SharedT × Thread) × Acc × Acc)
noncomputable def m1 (w : World) : List Nat → SharedT → Thread → Acc → Acc → Out
  | [], s, t, l1, l2 => some ((s, t), l1, l2)
  | n :: r, s, t, l1, l2 => match adv w n s t with
    | none => none
    | some (s', t') => match adv (w.withFollow "special-get-raises" true) 1 s' t' with
      | none => none
      | some (s₁, t₁) => m1 w r s₁ t₁ (some (s₁, t₁) :: l1) (adv (w.withFollow "special-get-raises" false) 1 s' t' :: l2)
noncomputable def offB (w : World) (s : SharedT) (t : Thread) (l1 l2 : Acc) : Option (Cfg × Acc × Acc) :=
  match m1 w [5] s t l1 l2 with
  | none => none
  | some ((s', t'), l1', l2') => some (adv w 5 s' t', l1', l2')
noncomputable def m2 (w : World) : List (List Nat × Nat) → SharedT → Thread → Acc → Acc → Out
  | [], s, t, l1, l2 => some ((s, t), l1, l2)
  | (ns, n) :: r, s, t, l1, l2 => match m1 w ns s t l1 l2 with
    | none => none
    | some ((sa, ta), l1, l2) => match adv w n sa ta with
      | none => none
      | some (s', t') => match adv (w.withFollow "comprehension-iter-twice" true) 1 s' t' with
        | none => none
        | some (s₁, t₁) => match offB (w.withFollow "comprehension-iter-twice" false) s' t' l1 l2 with
          | none => none
          | some (c, l1, l2) => m2 w r s₁ t₁ (some (s₁, t₁) :: l1) (c :: l2)
noncomputable def piece (w : World) (segs : List (List Nat × Nat)) (last : List Nat) (d : Nat) (s : SharedT) (t : Thread) : Out :=
  match m2 w segs s t [] [] with
  | none => none
  | some ((s, t), l1, l2) => match m1 w last s t l1 l2 with
    | none => none
    | some ((s, t), l1, l2) => match adv w d s t with
      | none => none
      | some c => some (c, l1, l2)
noncomputable def w0 (x : Out) : Cfg := match x with | some (c, _, _) => some c | none => none
noncomputable def w1 (x : Out) : Acc := match x with | some (_, l1, _) => l1 | none => []
noncomputable def w2 (x : Out) : Acc := match x with | some (_, _, l2) => l2 | none => []
noncomputable abbrev Res := Bool × Cfg × Acc
noncomputable def resL (x : Out) : Res := (x.isSome, w0 x, w1 x)
noncomputable def resR (x : Out) (s : SharedT) (t : Thread) : Res := (true, some (s, t), w2 x)
noncomputable def finE (w : World) (x : Out) : Option SharedT := match x with
  | some ((s, t), _, _) => endT w 60 s t
  | none => none
noncomputable abbrev ResE := Bool × Option SharedT × Acc
noncomputable def resLE (w : World) (x : Out) : ResE := (x.isSome, finE w x, w1 x)
noncomputable def resRE (x : Out) (s : SharedT) : ResE := (true, some s, w2 x)
noncomputable def treeOf (l : List Obj) : BT := (l.foldl (fun (x : BT × Nat) o => (x.1.ins x.2 o, x.2 + 1)) (BT.nil, 0)).1
noncomputable def shAt (w : World) (os : OsState) (l : List Obj) (n toks : Nat) : SharedT := ⟨treeOf l, n, (boot_heap w.params).life, #[], boot_drawn, toks, os⟩
noncomputable def s0 (w : World) (os : OsState) : SharedT := shAt w os (boot_heap w.params).objs.toList 11 boot_toks
noncomputable def t0 (_ : World) (_ : OsState) : Thread := topStub pwF
noncomputable def noThread : Thread := ⟨.pure (.done .next), .builtin "" {}, ⟨0, 0, 0, 0⟩, []⟩
noncomputable def thrOf (c : Cfg) : Thread := match c with | some (_, t) => t | none => noThread
noncomputable def gBody (rest : List Stmt) (env : Env) : Sem Fin := do return .done (← (execs rest env).onRaise (leaving env))
noncomputable def gFunc (rest : List Stmt) (env : Env) : Sem Fin := do
  match ← (execs rest env).onRaise (leaving env) with
  | .ret v => ret v
  | _ => ret .none
noncomputable def bodyOf : Code → List Stmt
  | .body b _ => b
  | .func b _ => b
  | _ => []
noncomputable def envIn : Code → Env
  | .body _ e => e
  | .func _ e => e
  | _ => default
noncomputable def atBody (t : Thread) (k : Nat) (p : Pos) : Thread := ⟨gBody ((bodyOf t.code).drop k) (envIn t.code), t.code, p, t.stack⟩
noncomputable def atComp (t : Thread) (p : Pos) : Thread := ⟨t.cur, t.code, p, t.stack⟩
noncomputable def wT (w : World) : World := (w.withFollow "special-get-raises" true).withFollow "comprehension-iter-twice" true
noncomputable def atFunc (t : Thread) (k : Nat) (p : Pos) : Thread := ⟨gFunc ((bodyOf t.code).drop k) (envIn t.code), t.code, p, t.stack⟩
noncomputable def Reach (w : World) (B : Nat) (s : SharedT) (t : Thread) (s' : SharedT) (t' : Thread) : Prop :=
  ∃ n, n ≤ B ∧ ∀ N r, topRun treeTable pwF w 11 (some (.ref 6)) N s'.abs t' = some r → topRun treeTable pwF w 11 (some (.ref 6)) (n + N) s.abs t = some r
theorem Reach.refl (w : World) (s : SharedT) (t : Thread) : Reach w 0 s t s t := ⟨0, Nat.le_refl _, fun N r h => by rw [Nat.zero_add]; exact h⟩
theorem Reach.trans {w : World} {B C : Nat} {s s' s'' : SharedT} {t t' t'' : Thread} (x : Reach w B s t s' t') (y : Reach w C s' t' s'' t'') : Reach w (B + C) s t s'' t'' := by
  obtain ⟨n, hn, f⟩ := x
  obtain ⟨m, hm, g⟩ := y
  exact ⟨n + m, Nat.add_le_add hn hm, fun N r h => by rw [Nat.add_assoc]; exact f _ _ (g _ _ h)⟩
theorem Reach.le {w : World} {B C : Nat} {s s' : SharedT} {t t' : Thread} (x : Reach w B s t s' t') (h : B ≤ C) : Reach w C s t s' t' := let ⟨n, hn, f⟩ := x; ⟨n, Nat.le_trans hn h, f⟩
theorem adv_reach {w : World} : ∀ {n : Nat} {s s' : SharedT} {t t' : Thread}, adv w n s t = some (s', t') → Reach w n s t s' t'
  | 0, s, s', t, t', h => by
    obtain ⟨rfl, rfl⟩ : s = s' ∧ t = t' := by simpa [adv] using h
    exact .refl ..
  | n + 1, s, s', t, t', h => by
    unfold adv at h
    cases h1 : through t with
    | true => rw [h1] at h; cases h
    | false =>
      rw [h1] at h
      cases h2 : stepOk 11 (some (.ref 6)) t with
      | false => rw [h2] at h; cases h
      | true =>
        rw [h2] at h
        cases h3 : stepT (denote treeTable) pwF w s t with
        | none => rw [h3] at h; cases h
        | some c =>
          obtain ⟨s₁, t₁⟩ := c
          rw [h3] at h
          obtain ⟨m, hm, f⟩ := adv_reach h
          refine ⟨m + 1, Nat.succ_le_succ hm, fun N r hr => ?_⟩
          rw [show m + 1 + N = (m + N) + 1 by omega]
          unfold topRun
          rw [h1, h2, stepT_spec h3]
          exact f N r hr
theorem endT_run {w : World} : ∀ {n : Nat} {s s' : SharedT} {t : Thread}, endT w n s t = some s' → topRun treeTable pwF w 11 (some (.ref 6)) n s.abs t = some s'.abs
  | 0, s, s', t, h => by cases h
  | n + 1, s, s', t, h => by
    unfold endT at h
    unfold topRun
    cases h1 : through t with
    | true => rw [h1] at h; cases h; rfl
    | false =>
      rw [h1] at h
      cases h2 : stepOk 11 (some (.ref 6)) t with
      | false => rw [h2] at h; cases h
      | true =>
        rw [h2] at h
        cases h3 : stepT (denote treeTable) pwF w s t with
        | none => rw [h3] at h; cases h
        | some c =>
          obtain ⟨s₁, t₁⟩ := c
          rw [h3] at h
          rw [stepT_spec h3]
          exact endT_run h
noncomputable def Adds (l1 l2 L1 L2 : Acc) (P : Prop) : Prop := ∃ p1 p2, L1 = p1 ++ l1 ∧ L2 = p2 ++ l2 ∧ p1.length = p2.length ∧ (p1 = p2 → P)
theorem Adds.nil {l1 l2 : Acc} {P : Prop} (h : P) : Adds l1 l2 l1 l2 P := ⟨[], [], rfl, rfl, rfl, fun _ => h⟩
theorem Adds.cons {l1 l2 L1 L2 : Acc} {P Q : Prop} {a b : Cfg} (x : Adds (a :: l1) (b :: l2) L1 L2 P) (h : a = b → P → Q) : Adds l1 l2 L1 L2 Q := by
  obtain ⟨p1, p2, e1, e2, e3, f⟩ := x
  refine ⟨p1 ++ [a], p2 ++ [b], by rw [e1]; simp, by rw [e2]; simp, by simp [e3], fun e => ?_⟩
  obtain ⟨e4, e5⟩ := List.append_inj e e3
  exact h (List.cons.inj e5).1 (f e4)
theorem Adds.comp {l1 l2 m1 m2 L1 L2 : Acc} {P Q R : Prop} (x : Adds l1 l2 m1 m2 P) (y : Adds m1 m2 L1 L2 Q) (h : P → Q → R) : Adds l1 l2 L1 L2 R := by
  obtain ⟨p1, p2, e1, e2, e3, f⟩ := x
  obtain ⟨q1, q2, e4, e5, e6, g⟩ := y
  refine ⟨q1 ++ p1, q2 ++ p2, by rw [e4, e1]; simp, by rw [e5, e2]; simp, by simp [e3, e6], fun e => ?_⟩
  obtain ⟨e7, e8⟩ := List.append_inj e e6
  exact h (f e8) (g e7)
theorem Adds.done {L1 L2 : Acc} {P : Prop} (x : Adds [] [] L1 L2 P) (e : L1 = L2) : P := by
  obtain ⟨p1, p2, rfl, rfl, e3, f⟩ := x
  simp only [List.append_nil] at e
  exact f e
theorem Adds.imp {l1 l2 L1 L2 : Acc} {P Q : Prop} (x : Adds l1 l2 L1 L2 P) (h : P → Q) : Adds l1 l2 L1 L2 Q := let ⟨p1, p2, a, b, c, f⟩ := x; ⟨p1, p2, a, b, c, fun e => h (f e)⟩
theorem merge_reach {w : World} {row : String} {s s₁ : SharedT} {t t₁ : Thread} {n m : Nat} {P : Prop} (h1 : P → Reach (w.withFollow row true) n s t s₁ t₁) (h2 : P → Reach (w.withFollow row false) m s t s₁ t₁) (p : P) : Reach w (max n m) s t s₁ t₁ := by
  have e := World.withFollow_self w row
  cases hb : w.params.followText row <;> rw [hb] at e
  · rw [e] at h2; exact (h2 p).le (Nat.le_max_right ..)
  · rw [e] at h1; exact (h1 p).le (Nat.le_max_left ..)
theorem m1_reach {w : World} : ∀ {ns : List Nat} {s : SharedT} {t : Thread} {l1 l2 : Acc} {s' : SharedT} {t' : Thread} {L1 L2 : Acc}, m1 w ns s t l1 l2 = some ((s', t'), L1, L2) → Adds l1 l2 L1 L2 (Reach w (ns.sum + ns.length) s t s' t')
  | [], s, t, l1, l2, s', t', L1, L2, h => by
    simp only [m1, Option.some.injEq, Prod.mk.injEq] at h
    obtain ⟨⟨rfl, rfl⟩, rfl, rfl⟩ := h
    exact .nil (.refl ..)
  | n :: r, s, t, l1, l2, s', t', L1, L2, h => by
    unfold m1 at h
    cases h1 : adv w n s t with
    | none => rw [h1] at h; cases h
    | some c =>
      obtain ⟨sa, ta⟩ := c
      rw [h1] at h
      dsimp only at h
      cases h2 : adv (w.withFollow "special-get-raises" true) 1 sa ta with
      | none => rw [h2] at h; cases h
      | some c =>
        obtain ⟨sb, tb⟩ := c
        rw [h2] at h
        dsimp only at h
        refine (m1_reach h).cons fun e R => ?_
        have M : Reach w (max 1 1) sa ta sb tb := merge_reach (P := True) (fun _ => adv_reach h2) (fun _ => adv_reach e.symm) trivial
        refine (((adv_reach h1).trans M).trans R).le ?_
        simp only [List.sum_cons, List.length_cons]
        omega
theorem offB_reach {w : World} {s : SharedT} {t : Thread} {l1 l2 L1 L2 : Acc} {c : Cfg} (h : offB w s t l1 l2 = some (c, L1, L2)) : Adds l1 l2 L1 L2 (∀ s' t', c = some (s', t') → Reach w 11 s t s' t') := by
  unfold offB at h
  cases h1 : m1 w [5] s t l1 l2 with
  | none => rw [h1] at h; cases h
  | some x =>
    obtain ⟨⟨sa, ta⟩, a1, a2⟩ := x
    rw [h1] at h
    simp only [Option.some.injEq, Prod.mk.injEq] at h
    obtain ⟨rfl, rfl, rfl⟩ := h
    refine (m1_reach h1).imp fun R s' t' e => ?_
    exact (R.trans (adv_reach e)).le (by simp)
noncomputable def bound2 (segs : List (List Nat × Nat)) : Nat := (segs.map fun x => x.1.sum + x.1.length + x.2 + 11).sum
theorem m2_reach {w : World} : ∀ {segs : List (List Nat × Nat)} {s : SharedT} {t : Thread} {l1 l2 : Acc} {s' : SharedT} {t' : Thread} {L1 L2 : Acc}, m2 w segs s t l1 l2 = some ((s', t'), L1, L2) → Adds l1 l2 L1 L2 (Reach w (bound2 segs) s t s' t')
  | [], s, t, l1, l2, s', t', L1, L2, h => by
    simp only [m2, Option.some.injEq, Prod.mk.injEq] at h
    obtain ⟨⟨rfl, rfl⟩, rfl, rfl⟩ := h
    exact .nil (.refl ..)
  | (ns, n) :: r, s, t, l1, l2, s', t', L1, L2, h => by
    unfold m2 at h
    cases h1 : m1 w ns s t l1 l2 with
    | none => rw [h1] at h; cases h
    | some x =>
      obtain ⟨⟨sa, ta⟩, a1, a2⟩ := x
      rw [h1] at h
      dsimp only at h
      cases h2 : adv w n sa ta with
      | none => rw [h2] at h; cases h
      | some c =>
        obtain ⟨sb, tb⟩ := c
        rw [h2] at h
        dsimp only at h
        cases h3 : adv (w.withFollow "comprehension-iter-twice" true) 1 sb tb with
        | none => rw [h3] at h; cases h
        | some c =>
          obtain ⟨sc, tc⟩ := c
          rw [h3] at h
          dsimp only at h
          cases h4 : offB (w.withFollow "comprehension-iter-twice" false) sb tb a1 a2 with
          | none => rw [h4] at h; cases h
          | some x =>
            obtain ⟨c, b1, b2⟩ := x
            rw [h4] at h
            dsimp only at h
            refine (m1_reach h1).comp ((offB_reach h4).comp ((m2_reach h).cons (Q := some (sc, tc) = c ∧ Reach w (bound2 r) sc tc s' t') fun e R => ⟨e, R⟩) (R := Reach w 11 sb tb sc tc ∧ Reach w (bound2 r) sc tc s' t') fun f ⟨e, R⟩ => ⟨?_, R⟩) fun R ⟨R', R''⟩ => ?_
            · exact (merge_reach (P := True) (fun _ => adv_reach h3) (fun _ => f _ _ e.symm) trivial).le (by simp)
            · refine (((R.trans (adv_reach h2)).trans R').trans R'').le ?_
              simp only [bound2, List.map_cons, List.sum_cons]
              omega
noncomputable def boundP (segs : List (List Nat × Nat)) (last : List Nat) (d : Nat) : Nat := bound2 segs + (last.sum + last.length) + d
theorem piece_adds {w : World} {segs : List (List Nat × Nat)} {last : List Nat} {d : Nat} {s s' : SharedT} {t t' : Thread} {L1 L2 : Acc} (h : piece w segs last d s t = some ((s', t'), L1, L2)) : Adds [] [] L1 L2 (Reach w (boundP segs last d) s t s' t') := by
  unfold piece at h
  cases h1 : m2 w segs s t [] [] with
  | none => rw [h1] at h; cases h
  | some x =>
    obtain ⟨⟨sa, ta⟩, a1, a2⟩ := x
    rw [h1] at h
    dsimp only at h
    cases h2 : m1 w last sa ta a1 a2 with
    | none => rw [h2] at h; cases h
    | some x =>
      obtain ⟨⟨sb, tb⟩, b1, b2⟩ := x
      rw [h2] at h
      dsimp only at h
      cases h3 : adv w d sb tb with
      | none => rw [h3] at h; cases h
      | some c =>
        rw [h3] at h
        simp only [Option.some.injEq, Prod.mk.injEq] at h
        obtain ⟨rfl, rfl, rfl⟩ := h
        exact (m2_reach h1).comp (m1_reach h2) fun R R' => (R.trans R').trans (adv_reach h3)
theorem piece_reach {w : World} {segs : List (List Nat × Nat)} {last : List Nat} {d : Nat} {s s' : SharedT} {t t' : Thread} {x : Out} (hx : x = piece w segs last d s t) (h : resL x = resR x s' t') : Reach w (boundP segs last d) s t s' t' := by
  obtain ⟨h1, h2, h3⟩ : x.isSome = true ∧ w0 x = some (s', t') ∧ w1 x = w2 x := by simpa only [resL, resR, Prod.mk.injEq] using h
  cases x with
  | none => cases h1
  | some y =>
    obtain ⟨c, L1, L2⟩ := y
    simp only [w0, Option.some.injEq] at h2
    subst h2
    exact (piece_adds hx.symm).done h3
theorem piece_end {w : World} {segs : List (List Nat × Nat)} {last : List Nat} {d : Nat} {s s' : SharedT} {t : Thread} {x : Out} (hx : x = piece w segs last d s t) (h : resLE w x = resRE x s') :
    ∃ n, n ≤ boundP segs last d ∧ topRun treeTable pwF w 11 (some (.ref 6)) (n + 60) s.abs t = some s'.abs := by
  obtain ⟨h1, h2, h3⟩ : x.isSome = true ∧ finE w x = some s' ∧ w1 x = w2 x := by simpa only [resLE, resRE, Prod.mk.injEq] using h
  cases x with
  | none => cases h1
  | some y =>
    obtain ⟨⟨sa, ta⟩, L1, L2⟩ := y
    obtain ⟨n, hn, f⟩ := (piece_adds hx.symm).done h3
    exact ⟨n, hn, f _ _ (endT_run h2)⟩
theorem abs_of {w : World} {os : OsState} {l : List Obj} {n tk : Nat} (e : (treeOf l).list n = l) : (shAt w os l n tk).abs = ⟨⟨l.toArray, (boot_heap w.params).life⟩, Array.mk [], boot_drawn, tk, os⟩ := by
  unfold shAt SharedT.abs absHeap
  dsimp only
  rw [e]
theorem treeOf_step (l : List Obj) : ∀ (t : BT) (n : Nat), (l.foldl (fun (x : BT × Nat) o => (x.1.ins x.2 o, x.2 + 1)) (t, n)).2 = n + l.length := by
  induction l with
  | nil => intro t n; rfl
  | cons o r ih => intro t n; rw [List.foldl_cons, ih, List.length_cons]; omega
noncomputable def t12 (w : World) (os : OsState) : Thread := thrOf (adv w 12 (s0 w os) (topStub pwF))
noncomputable def ck0 (P : Params) : List Obj := [boot_o_0 P, boot_o_1 P, boot_o_2 P, o3 P, boot_o_4 P, boot_o_5 P, boot_o_6 P, boot_o_7 P, boot_o_8 P, boot_o_9 P, boot_o_10 P, o11, o12, o13, o14, o11, o16, o17, o11, o19 P, o20, o21 P, o22, o23]
noncomputable def ck1 (P : Params) : List Obj := [o24 P, o11, o26, o27, o28, o29, o11, o16, o32, o11, o34 P, o35, o36 P, o37, o38 P, o39, o40, o41, o42, o43, o23, o45 P, o11, o16]
noncomputable def ck2 (P : Params) : List Obj := [o48, o49, o11, o51 P, o52, o53, o54, o43, o23, o57 P, o11, o59, o60, o61, o11, o16, o64, o11, o66 P, o67, o68 P, o69, o70 P, o71]
noncomputable def ck3 (P : Params) : List Obj := [o72, o73, o11, o23, o76 P, o11, o78, o79, o80, o81, o11, o16, o84, o11, o86 P, o87, o88 P, o11, o16, o91, o11, o93 P, o94, o95 P]
noncomputable def ck4 (P : Params) : List Obj := [o96, o97 P, o98, o99, o100, o101, o102, o11, o23, o105 P, o11, o107, o108, o109, o110, o11, o16, o113, o11, o115 P, o116, o117 P, o11, o16]
noncomputable def ck5 (P : Params) : List Obj := [o120, o11, o122 P, o123, o124 P, o125, o126 P, o127, o128, o129, o130, o131, o132, o11, o16, o135, o11, o137 P, o138, o139 P, o11, o16, o142, o11]
noncomputable def ck6 (P : Params) : List Obj := [o144 P, o145, o146 P]
noncomputable def objs1437 (P : Params) : List Obj := ck0 P ++ (ck1 P ++ (ck2 P ++ (ck3 P ++ (ck4 P ++ (ck5 P ++ (ck6 P))))))
noncomputable def s1437 (w : World) (os : OsState) : SharedT := shAt w os (objs1437 w.params) 147 409
noncomputable def t1437 (w : World) (os : OsState) : Thread := atBody (t12 w os) 21 ⟨58, 0, 75, 16⟩
noncomputable def tKn (w : World) (os : OsState) : Thread := thrOf (adv w 59 (s1437 w os) (t1437 w os))
noncomputable def tSh (w : World) (os : OsState) : Thread := thrOf (adv w 74 (s1437 w os) (t1437 w os))
noncomputable def ck7 (P : Params) : List Obj := [boot_o_0 P, boot_o_1 P, boot_o_2 P, o3 P, boot_o_4 P, boot_o_5 P, boot_o_6 P, boot_o_7 P, boot_o_8 P, boot_o_9 P, boot_o_10 P, o11, o12a, o13, o14, o11, o16, o17, o11, o19 P, o20, o21 P, o22, o23]
noncomputable def ck8 (P : Params) : List Obj := [o144 P, o145, o146 P, o11, o23, o149 P, o11, o16, o152, o153, o154 P, o155 P, o156, o157 P, o158 P, o159, o160 P, o161 P, o162, o163 P, o164 P, o165, o166 P, o167]
noncomputable def ck9 (P : Params) : List Obj := [o168 P, o169, o170, o171, o172, o173, o174, o11, o176, o177 P, o178, o179 P, o180, o174, o11, o183, o184 P, o185, o186 P, o187, o174, o11, o190, o191]
noncomputable def ck10 (P : Params) : List Obj := [o174, o11, o194, o195, o174, o11, o198, o199 P, o200, o201 P, o202, o174, o11, o205, o206 P, o207, o208 P, o209, o174, o11, o212, o213 P, o214, o215 P]
noncomputable def ck11 (P : Params) : List Obj := [o216, o174, o11, o219, o220 P, o221, o222 P, o11, o224]
noncomputable def objs4999 (P : Params) : List Obj := ck7 P ++ (ck1 P ++ (ck2 P ++ (ck3 P ++ (ck4 P ++ (ck5 P ++ (ck8 P ++ (ck9 P ++ (ck10 P ++ (ck11 P)))))))))
noncomputable def s4999 (w : World) (os : OsState) : SharedT := shAt w os (objs4999 w.params) 225 638
noncomputable def t4999 (w : World) (os : OsState) : Thread := atFunc (tSh w os) 2 ⟨60, 4, 60, 72⟩
noncomputable def ck12 (P : Params) : List Obj := [o144 P, o145, o146 P, o11, o23, o149 P, o11, o16, o152, o153, o154 P, o155 P, o156, o157 P, o158 P, o159, o160 P, o161 P, o162, o163 P, o164 P, o165, o166 P, o167a]
noncomputable def ck13 (P : Params) : List Obj := [o216, o174, o11, o219, o220 P, o221, o222 P, o11, o224, o225 P, o226, o227, o228, o229, o230, o174, o11, o233, o234 P, o235, o236 P, o237, o174, o11]
noncomputable def ck14 (P : Params) : List Obj := [o240, o241 P, o242, o243 P, o244, o174, o11, o247, o248 P, o249, o250 P, o251, o174, o11, o254, o255, o174, o11, o258, o259 P, o260, o261 P, o262, o174]
noncomputable def ck15 (P : Params) : List Obj := [o11, o265, o266 P, o267, o268 P, o11, o270, o271 P, o272, o273, o274, o275, o276, o174, o11, o279, o280 P, o281, o282 P, o283, o174, o11, o286, o287 P]
noncomputable def ck16 (P : Params) : List Obj := [o288, o289 P, o290, o174, o11, o293, o294 P, o295, o296 P, o11, o298]
noncomputable def objs8317 (P : Params) : List Obj := ck7 P ++ (ck1 P ++ (ck2 P ++ (ck3 P ++ (ck4 P ++ (ck5 P ++ (ck12 P ++ (ck9 P ++ (ck10 P ++ (ck13 P ++ (ck14 P ++ (ck15 P ++ (ck16 P))))))))))))
noncomputable def s8317 (w : World) (os : OsState) : SharedT := shAt w os (objs8317 w.params) 299 827
noncomputable def t8317 (w : World) (os : OsState) : Thread := atFunc (tSh w os) 4 ⟨62, 4, 62, 50⟩
noncomputable def ck17 (P : Params) : List Obj := [o144 P, o145, o146 P, o11, o23, o149 P, o11, o16, o152, o153, o154 P, o155 P, o156, o157 P, o158 P, o159, o160 P, o161 P, o162, o163 P, o164 P, o165, o166 P, o167b]
noncomputable def ck18 (P : Params) : List Obj := [o288, o289 P, o290, o174, o11, o293, o294 P, o295, o296 P, o11, o298, o299 P, o300, o301, o171, o303, o304, o174, o11, o307, o308 P, o309, o310 P, o311]
noncomputable def ck19 (P : Params) : List Obj := [o174, o11, o314, o315, o174, o11, o318, o319 P, o320, o321 P, o322, o174, o11, o325, o326 P, o327, o328 P, o329, o174, o11, o332, o333 P, o334, o335 P]
noncomputable def ck20 (P : Params) : List Obj := [o336, o174, o11, o339, o340, o174, o11, o343, o344 P, o345, o346 P, o347, o174, o11, o350, o351 P, o352, o353 P, o11, o355, o356 P, o357, o358, o228]
noncomputable def ck21 (P : Params) : List Obj := [o360, o361, o174, o11, o364, o365, o174, o11, o368, o369 P, o370, o371 P, o372, o174, o11, o375, o376, o174, o11, o379, o380, o174, o11, o383]
noncomputable def ck22 (P : Params) : List Obj := [o384, o174, o11, o387, o388 P, o389, o390 P, o11, o392]
noncomputable def objs12185 (P : Params) : List Obj := ck7 P ++ (ck1 P ++ (ck2 P ++ (ck3 P ++ (ck4 P ++ (ck5 P ++ (ck17 P ++ (ck9 P ++ (ck10 P ++ (ck13 P ++ (ck14 P ++ (ck15 P ++ (ck18 P ++ (ck19 P ++ (ck20 P ++ (ck21 P ++ (ck22 P))))))))))))))))
noncomputable def s12185 (w : World) (os : OsState) : SharedT := shAt w os (objs12185 w.params) 393 1041
noncomputable def t12185 (w : World) (os : OsState) : Thread := atFunc (tSh w os) 6 ⟨64, 4, 64, 67⟩
noncomputable def ck23 (P : Params) : List Obj := [o144 P, o145, o146 P, o11, o23, o149 P, o11, o16, o152, o153, o154 P, o155 P, o156, o157 P, o158 P, o159, o160 P, o161 P, o162, o163 P, o164 P, o165, o166 P, o167c]
noncomputable def ck24 (P : Params) : List Obj := [o384, o174, o11, o387, o388 P, o389, o390 P, o11, o392, o393 P, o394, o395, o228, o397, o398, o174, o11, o401, o402, o174, o11, o405, o406, o174]
noncomputable def ck25 (P : Params) : List Obj := [o11, o409, o410, o174, o11, o413, o414, o174, o11, o417, o418, o174, o11, o421, o422 P, o423, o424 P, o11, o426, o427 P, o428, o429, o171, o431]
noncomputable def ck26 (P : Params) : List Obj := [o432, o174, o11, o435, o436 P, o437, o438 P, o439, o174, o11, o442, o443 P, o444, o445 P, o446, o174, o11, o449, o450 P, o451, o452 P, o453, o174, o11]
noncomputable def ck27 (P : Params) : List Obj := [o456, o457 P, o458, o459 P, o460, o174, o11, o463, o464 P, o465, o466 P, o467, o174, o11, o470, o471 P, o472, o473 P, o474, o174, o11, o477, o478 P, o479]
noncomputable def ck28 (P : Params) : List Obj := [o480 P, o481, o174, o11, o484, o485 P, o486, o487 P, o11, o489]
noncomputable def objs16309 (P : Params) : List Obj := ck7 P ++ (ck1 P ++ (ck2 P ++ (ck3 P ++ (ck4 P ++ (ck5 P ++ (ck23 P ++ (ck9 P ++ (ck10 P ++ (ck13 P ++ (ck14 P ++ (ck15 P ++ (ck18 P ++ (ck19 P ++ (ck20 P ++ (ck21 P ++ (ck24 P ++ (ck25 P ++ (ck26 P ++ (ck27 P ++ (ck28 P))))))))))))))))))))
noncomputable def s16309 (w : World) (os : OsState) : SharedT := shAt w os (objs16309 w.params) 490 1272
noncomputable def t16309 (w : World) (os : OsState) : Thread := atFunc (tSh w os) 8 ⟨66, 4, 66, 76⟩
noncomputable def ck29 (P : Params) : List Obj := [o144 P, o145, o146 P, o11, o23, o149 P, o11, o16, o152, o153, o154 P, o155 P, o156, o157 P, o158 P, o159, o160 P, o161 P, o162, o163 P, o164 P, o165, o166 P, o167d]
noncomputable def ck30 (P : Params) : List Obj := [o480 P, o481, o174, o11, o484, o485 P, o486, o487 P, o11, o489, o490 P, o491, o492, o228, o494, o495, o174, o11, o498, o499 P, o500, o501 P, o502, o174]
noncomputable def ck31 (P : Params) : List Obj := [o11, o505, o506, o174, o11, o509, o510, o174, o11, o513, o514, o174, o11, o517, o518, o174, o11, o521, o522 P, o523, o524 P, o11, o526, o527 P]
noncomputable def ck32 (P : Params) : List Obj := [o528, o529, o171, o531, o532, o174, o11, o535, o536 P, o537, o538 P, o539, o174, o11, o542, o543 P, o544, o545 P, o546, o174, o11, o549, o550 P, o551]
noncomputable def ck33 (P : Params) : List Obj := [o552 P, o553, o174, o11, o556, o557 P, o558, o559 P, o560, o174, o11, o563, o564 P, o565, o566 P, o567, o174, o11, o570, o571 P, o572, o573 P, o574, o174]
noncomputable def ck34 (P : Params) : List Obj := [o11, o577, o578 P, o579, o580 P, o581, o174, o11, o584, o585 P, o586, o587 P, o11, o589]
noncomputable def objs20689 (P : Params) : List Obj := ck7 P ++ (ck1 P ++ (ck2 P ++ (ck3 P ++ (ck4 P ++ (ck5 P ++ (ck29 P ++ (ck9 P ++ (ck10 P ++ (ck13 P ++ (ck14 P ++ (ck15 P ++ (ck18 P ++ (ck19 P ++ (ck20 P ++ (ck21 P ++ (ck24 P ++ (ck25 P ++ (ck26 P ++ (ck27 P ++ (ck30 P ++ (ck31 P ++ (ck32 P ++ (ck33 P ++ (ck34 P))))))))))))))))))))))))
noncomputable def s20689 (w : World) (os : OsState) : SharedT := shAt w os (objs20689 w.params) 590 1520
noncomputable def t20689 (w : World) (os : OsState) : Thread := atFunc (tSh w os) 10 ⟨68, 4, 68, 87⟩
noncomputable def ck35 (P : Params) : List Obj := [o144 P, o145, o146 P, o11, o23, o149 P, o11, o16, o152, o153, o154 P, o155 P, o156, o157 P, o158 P, o159, o160 P, o161 P, o162, o163 P, o164 P, o165, o166 P, o167e]
noncomputable def ck36 (P : Params) : List Obj := [o11, o577, o578 P, o579, o580 P, o581, o174, o11, o584, o585 P, o586, o587 P, o11, o589, o590 P, o591, o592, o593, o594, o595, o174, o11, o598, o599 P]
noncomputable def ck37 (P : Params) : List Obj := [o600, o601 P, o602, o174, o11, o605, o606 P, o607, o608 P, o11, o610, o611 P, o612, o613, o614, o615, o616, o174, o11, o619, o620, o174, o11, o623]
noncomputable def ck38 (P : Params) : List Obj := [o624 P, o625, o626 P, o627, o174, o11, o630, o631 P, o632, o633 P, o634, o174, o11, o637, o638 P, o639, o640 P, o11, o642, o643 P, o644, o645, o171, o647]
noncomputable def ck39 (P : Params) : List Obj := [o648, o174, o11, o651, o652, o174, o11, o655, o656, o174, o11, o659, o660, o174, o11, o663, o664, o174, o11, o667, o668, o174, o11, o671]
noncomputable def ck40 (P : Params) : List Obj := [o672 P, o673, o674 P, o675, o174, o11, o678, o679 P, o680, o681 P, o682, o174, o11, o685, o686 P, o687, o688 P, o11, o690]
noncomputable def objs24701 (P : Params) : List Obj := ck7 P ++ (ck1 P ++ (ck2 P ++ (ck3 P ++ (ck4 P ++ (ck5 P ++ (ck35 P ++ (ck9 P ++ (ck10 P ++ (ck13 P ++ (ck14 P ++ (ck15 P ++ (ck18 P ++ (ck19 P ++ (ck20 P ++ (ck21 P ++ (ck24 P ++ (ck25 P ++ (ck26 P ++ (ck27 P ++ (ck30 P ++ (ck31 P ++ (ck32 P ++ (ck33 P ++ (ck36 P ++ (ck37 P ++ (ck38 P ++ (ck39 P ++ (ck40 P))))))))))))))))))))))))))))
noncomputable def s24701 (w : World) (os : OsState) : SharedT := shAt w os (objs24701 w.params) 691 1742
noncomputable def t24701 (w : World) (os : OsState) : Thread := atFunc (tSh w os) 13 ⟨71, 4, 71, 76⟩
noncomputable def ck41 (P : Params) : List Obj := [o144 P, o145, o146 P, o11, o23, o149a P, o11, o16, o152, o153, o154a P, o155 P, o156, o157 P, o158 P, o159, o160 P, o161 P, o162, o163 P, o164 P, o165, o166 P, o167f]
noncomputable def ck42 (P : Params) : List Obj := [o672 P, o673, o674 P, o675, o174, o11, o678, o679 P, o680, o681 P, o682, o174, o11, o685, o686 P, o687, o688 P, o11, o690, o691 P, o692, o693 P, o694, o695]
noncomputable def ck43 (P : Params) : List Obj := [o696, o697, o698, o699, o700, o174, o11, o703, o704 P, o705, o706 P, o174, o11, o709, o710 P, o711, o712 P, o174, o11, o715, o716 P, o717, o718 P, o174]
noncomputable def ck44 (P : Params) : List Obj := [o11, o721, o722 P, o723, o724 P, o174, o11, o727, o728 P, o729, o730 P, o11, o732]
noncomputable def objs26698 (P : Params) : List Obj := ck7 P ++ (ck1 P ++ (ck2 P ++ (ck3 P ++ (ck4 P ++ (ck5 P ++ (ck41 P ++ (ck9 P ++ (ck10 P ++ (ck13 P ++ (ck14 P ++ (ck15 P ++ (ck18 P ++ (ck19 P ++ (ck20 P ++ (ck21 P ++ (ck24 P ++ (ck25 P ++ (ck26 P ++ (ck27 P ++ (ck30 P ++ (ck31 P ++ (ck32 P ++ (ck33 P ++ (ck36 P ++ (ck37 P ++ (ck38 P ++ (ck39 P ++ (ck42 P ++ (ck43 P ++ (ck44 P))))))))))))))))))))))))))))))
noncomputable def s26698 (w : World) (os : OsState) : SharedT := shAt w os (objs26698 w.params) 733 1883
noncomputable def t26698 (w : World) (os : OsState) : Thread := atBody (tKn w os) 1 ⟨77, 4, 77, 10⟩
noncomputable def ck45 (P : Params) : List Obj := [o144 P, o145, o146 P, o11, o23, o149b P, o11, o16, o152, o153, o154a P, o155 P, o156, o157 P, o158 P, o159, o160 P, o161 P, o162, o163 P, o164 P, o165, o166 P, o167f]
noncomputable def ck46 (P : Params) : List Obj := [o11, o721, o722 P, o723, o724 P, o174, o11, o727, o728 P, o729, o730 P, o11, o732, o733, o734 P, o735, o11, o737]
noncomputable def objs29874 (P : Params) : List Obj := ck7 P ++ (ck1 P ++ (ck2 P ++ (ck3 P ++ (ck4 P ++ (ck5 P ++ (ck45 P ++ (ck9 P ++ (ck10 P ++ (ck13 P ++ (ck14 P ++ (ck15 P ++ (ck18 P ++ (ck19 P ++ (ck20 P ++ (ck21 P ++ (ck24 P ++ (ck25 P ++ (ck26 P ++ (ck27 P ++ (ck30 P ++ (ck31 P ++ (ck32 P ++ (ck33 P ++ (ck36 P ++ (ck37 P ++ (ck38 P ++ (ck39 P ++ (ck42 P ++ (ck43 P ++ (ck46 P))))))))))))))))))))))))))))))
noncomputable def s29874 (w : World) (os : OsState) : SharedT := shAt w os (objs29874 w.params) 738 2061
noncomputable def t29874 (w : World) (os : OsState) : Thread := atBody (tKn w os) 2 ⟨78, 4, 78, 11⟩
noncomputable def ck47 (P : Params) : List Obj := [o144 P, o145, o146 P, o11, o23, o149c P, o11, o16, o152, o153, o154a P, o155 P, o156, o157 P, o158 P, o159, o160 P, o161 P, o162, o163 P, o164 P, o165, o166 P, o167f]
noncomputable def ck48 (P : Params) : List Obj := [o11, o721, o722 P, o723, o724 P, o174, o11, o727, o728 P, o729, o730 P, o11, o732, o733, o734 P, o735, o11, o737, o733, o739, o735, o741, o742, o743]
noncomputable def ck49 (P : Params) : List Obj := [o744, o745, o746, o747, o748, o749, o750, o751, o752, o753, o754, o755, o756, o757, o758, o759, o760, o761, o762, o763, o764, o765, o766, o767]
noncomputable def ck50 (P : Params) : List Obj := [o768, o769, o770, o771, o772, o773, o774, o775, o776, o777, o778, o779, o780, o781, o782, o783, o784, o785, o786, o787, o788, o789, o790, o791]
noncomputable def ck51 (P : Params) : List Obj := [o792, o793, o794, o795, o796, o797, o798, o799, o11, o801]
noncomputable def objs33433 (P : Params) : List Obj := ck7 P ++ (ck1 P ++ (ck2 P ++ (ck3 P ++ (ck4 P ++ (ck5 P ++ (ck47 P ++ (ck9 P ++ (ck10 P ++ (ck13 P ++ (ck14 P ++ (ck15 P ++ (ck18 P ++ (ck19 P ++ (ck20 P ++ (ck21 P ++ (ck24 P ++ (ck25 P ++ (ck26 P ++ (ck27 P ++ (ck30 P ++ (ck31 P ++ (ck32 P ++ (ck33 P ++ (ck36 P ++ (ck37 P ++ (ck38 P ++ (ck39 P ++ (ck42 P ++ (ck43 P ++ (ck48 P ++ (ck49 P ++ (ck50 P ++ (ck51 P)))))))))))))))))))))))))))))))))
noncomputable def s33433 (w : World) (os : OsState) : SharedT := shAt w os (objs33433 w.params) 802 2304
noncomputable def t33433 (w : World) (os : OsState) : Thread := atBody (tKn w os) 3 ⟨79, 4, 79, 13⟩
noncomputable def tC33433 (w : World) (os : OsState) : Thread := thrOf (adv (wT w) 19 (s33433 w os) (t33433 w os))
noncomputable def ck52 (P : Params) : List Obj := [o792, o793, o794, o795, o796, o797, o798, o799, o11, o801, o802, o803, o804 P, o805, o806, o807, o808, o809 P, o810, o811 P, o812, o813 P, o814, o815 P]
noncomputable def ck53 (P : Params) : List Obj := [o816, o817 P, o818, o819 P, o820, o821 P, o822, o823 P, o824, o825 P, o826, o827 P, o828, o829 P, o830, o831 P, o832, o833 P, o834, o835 P, o836, o837 P, o838, o839 P]
noncomputable def ck54 (P : Params) : List Obj := [o840, o841 P, o842, o843 P, o844, o845 P]
noncomputable def objs37304 (P : Params) : List Obj := ck7 P ++ (ck1 P ++ (ck2 P ++ (ck3 P ++ (ck4 P ++ (ck5 P ++ (ck47 P ++ (ck9 P ++ (ck10 P ++ (ck13 P ++ (ck14 P ++ (ck15 P ++ (ck18 P ++ (ck19 P ++ (ck20 P ++ (ck21 P ++ (ck24 P ++ (ck25 P ++ (ck26 P ++ (ck27 P ++ (ck30 P ++ (ck31 P ++ (ck32 P ++ (ck33 P ++ (ck36 P ++ (ck37 P ++ (ck38 P ++ (ck39 P ++ (ck42 P ++ (ck43 P ++ (ck48 P ++ (ck49 P ++ (ck50 P ++ (ck52 P ++ (ck53 P ++ (ck54 P)))))))))))))))))))))))))))))))))))
noncomputable def s37304 (w : World) (os : OsState) : SharedT := shAt w os (objs37304 w.params) 846 2689
noncomputable def t37304 (w : World) (os : OsState) : Thread := atComp (tC33433 w os) ⟨80, 16, 80, 36⟩
noncomputable def ck55 (P : Params) : List Obj := [o144 P, o145, o146 P, o11, o23, o149d P, o11, o16, o152, o153, o154a P, o155 P, o156, o157 P, o158 P, o159, o160 P, o161 P, o162, o163 P, o164 P, o165, o166 P, o167f]
noncomputable def ck56 (P : Params) : List Obj := [o792, o793, o794, o795, o796, o797, o798, o799, o11, o801, o733, o803a, o735, o805, o806, o807, o808, o809 P, o810, o811 P, o812, o813 P, o814, o815 P]
noncomputable def ck57 (P : Params) : List Obj := [o840, o841 P, o842, o843 P, o844, o845 P, o846, o847 P, o848, o849 P, o850, o851, o852, o853, o854, o855, o856, o857, o858, o859, o860, o861, o862, o863]
noncomputable def ck58 (P : Params) : List Obj := [o864, o865, o866, o867, o868, o869, o870, o871, o872 P, o873, o874 P, o875, o876 P, o877, o878 P, o879, o880 P, o881, o882 P, o883, o884 P, o885, o886 P, o887]
noncomputable def ck59 (P : Params) : List Obj := [o888, o889, o890, o891, o892, o11, o894]
noncomputable def objs41443 (P : Params) : List Obj := ck7 P ++ (ck1 P ++ (ck2 P ++ (ck3 P ++ (ck4 P ++ (ck5 P ++ (ck55 P ++ (ck9 P ++ (ck10 P ++ (ck13 P ++ (ck14 P ++ (ck15 P ++ (ck18 P ++ (ck19 P ++ (ck20 P ++ (ck21 P ++ (ck24 P ++ (ck25 P ++ (ck26 P ++ (ck27 P ++ (ck30 P ++ (ck31 P ++ (ck32 P ++ (ck33 P ++ (ck36 P ++ (ck37 P ++ (ck38 P ++ (ck39 P ++ (ck42 P ++ (ck43 P ++ (ck48 P ++ (ck49 P ++ (ck50 P ++ (ck56 P ++ (ck53 P ++ (ck57 P ++ (ck58 P ++ (ck59 P)))))))))))))))))))))))))))))))))))))
noncomputable def s41443 (w : World) (os : OsState) : SharedT := shAt w os (objs41443 w.params) 895 3096
noncomputable def t41443 (w : World) (os : OsState) : Thread := atBody (tKn w os) 4 ⟨80, 4, 80, 12⟩
noncomputable def tC41443 (w : World) (os : OsState) : Thread := thrOf (adv (wT w) 19 (s41443 w os) (t41443 w os))
noncomputable def ck60 (P : Params) : List Obj := [o888, o889, o890, o891, o892, o11, o894, o895, o896, o897 P, o898, o899, o900, o901, o902, o903, o904, o905, o906, o907, o908, o909, o910, o911]
noncomputable def ck61 (P : Params) : List Obj := [o912, o913, o914, o915, o916, o917, o918, o919, o920, o921, o922, o923 P, o924, o925 P, o926, o927 P, o928, o929 P, o930, o931 P, o932, o933 P, o934, o935 P]
noncomputable def ck62 (P : Params) : List Obj := [o936, o937 P]
noncomputable def objs44458 (P : Params) : List Obj := ck7 P ++ (ck1 P ++ (ck2 P ++ (ck3 P ++ (ck4 P ++ (ck5 P ++ (ck55 P ++ (ck9 P ++ (ck10 P ++ (ck13 P ++ (ck14 P ++ (ck15 P ++ (ck18 P ++ (ck19 P ++ (ck20 P ++ (ck21 P ++ (ck24 P ++ (ck25 P ++ (ck26 P ++ (ck27 P ++ (ck30 P ++ (ck31 P ++ (ck32 P ++ (ck33 P ++ (ck36 P ++ (ck37 P ++ (ck38 P ++ (ck39 P ++ (ck42 P ++ (ck43 P ++ (ck48 P ++ (ck49 P ++ (ck50 P ++ (ck56 P ++ (ck53 P ++ (ck57 P ++ (ck58 P ++ (ck60 P ++ (ck61 P ++ (ck62 P)))))))))))))))))))))))))))))))))))))))
noncomputable def s44458 (w : World) (os : OsState) : SharedT := shAt w os (objs44458 w.params) 938 3344
noncomputable def t44458 (w : World) (os : OsState) : Thread := atComp (tC41443 w os) ⟨81, 18, 81, 38⟩
noncomputable def ck63 (P : Params) : List Obj := [o144 P, o145, o146 P, o11, o23, o149e P, o11, o16, o152, o153, o154a P, o155 P, o156, o157 P, o158 P, o159, o160 P, o161 P, o162, o163 P, o164 P, o165, o166 P, o167f]
noncomputable def ck64 (P : Params) : List Obj := [o888, o889, o890, o891, o892, o11, o894, o733, o896a, o735, o898, o899, o900, o901, o902, o903, o904, o905, o906, o907, o908, o909, o910, o911]
noncomputable def ck65 (P : Params) : List Obj := [o936, o937 P, o938, o939 P, o940, o941 P, o942, o943 P, o944, o945 P, o946, o947 P, o948, o949 P, o950, o951 P, o952, o953 P, o954, o955 P, o956, o957 P, o958, o959 P]
noncomputable def ck66 (P : Params) : List Obj := [o960, o961 P, o962, o963 P, o964, o965, o966, o967, o968, o969, o970, o971, o972, o973 P, o974, o975, o976, o977, o978, o11, o980]
noncomputable def objs47883 (P : Params) : List Obj := ck7 P ++ (ck1 P ++ (ck2 P ++ (ck3 P ++ (ck4 P ++ (ck5 P ++ (ck63 P ++ (ck9 P ++ (ck10 P ++ (ck13 P ++ (ck14 P ++ (ck15 P ++ (ck18 P ++ (ck19 P ++ (ck20 P ++ (ck21 P ++ (ck24 P ++ (ck25 P ++ (ck26 P ++ (ck27 P ++ (ck30 P ++ (ck31 P ++ (ck32 P ++ (ck33 P ++ (ck36 P ++ (ck37 P ++ (ck38 P ++ (ck39 P ++ (ck42 P ++ (ck43 P ++ (ck48 P ++ (ck49 P ++ (ck50 P ++ (ck56 P ++ (ck53 P ++ (ck57 P ++ (ck58 P ++ (ck64 P ++ (ck61 P ++ (ck65 P ++ (ck66 P))))))))))))))))))))))))))))))))))))))))
noncomputable def s47883 (w : World) (os : OsState) : SharedT := shAt w os (objs47883 w.params) 981 3634
noncomputable def t47883 (w : World) (os : OsState) : Thread := atBody (tKn w os) 5 ⟨81, 4, 81, 14⟩
noncomputable def ck67 (P : Params) : List Obj := [boot_o_0 P, boot_o_1 P, boot_o_2 P, o3a P, boot_o_4 P, boot_o_5 P, boot_o_6 P, boot_o_7 P, boot_o_8 P, boot_o_9 P, boot_o_10 P, o11, o12b, o13, o14, o11, o16, o17, o11, o19 P, o20, o21 P, o22, o23]
noncomputable def ck68 (P : Params) : List Obj := [o144 P, o145, o146 P, o11, o23, o149f P, o11, o16, o152, o153, o154a P, o155 P, o156, o157 P, o158 P, o159, o160 P, o161 P, o162, o163 P, o164 P, o165, o166 P, o167f]
noncomputable def ck69 (P : Params) : List Obj := [o960, o961 P, o962, o963 P, o964, o965, o966, o967, o968, o969, o970, o971, o972, o973 P, o974, o975, o976, o977, o978, o11, o980, o733, o982, o735]
noncomputable def ck70 (P : Params) : List Obj := [o11, o985, o11, o987 P, o988, o989, o990, o991, o992, o993 P, o994, o995, o996, o997, o998, o999, o1000, o1001, o1002, o1003, o1004, o11, o1006 P, o1007]
noncomputable def ck71 (P : Params) : List Obj := [o1008, o1009, o1010, o1011, o1012, o1013, o1014, o11, o16, o1017, o11, o1019 P, o1020, o1021 P, o11, o16, o1024, o11, o1026 P, o1027, o1028 P, o11, o16, o1031]
noncomputable def ck72 (P : Params) : List Obj := [o11, o1033 P, o1034, o1035 P, o11, o16, o1038, o11, o1040 P, o1041, o1042 P, o11, o16, o1045, o11, o1047 P, o1048, o1049 P, o11, o16, o1052, o11, o1054 P, o1055]
noncomputable def ck73 (P : Params) : List Obj := [o1056 P, o11, o16, o1059, o11, o1061 P, o1062, o1063 P, o11, o16, o1066, o11, o1068 P, o1069, o1070 P, o11, o16, o1073, o11, o1075 P, o1076, o1077 P, o11, o16]
noncomputable def ck74 (P : Params) : List Obj := [o1080, o11, o1082 P, o1083, o1084 P, o11, o16, o1087 P, o1088, o1089 P, o11, o16, o1092 P, o1093, o1094 P, o11, o16, o1097, o11, o1099 P, o1100, o1101 P, o11, o16]
noncomputable def ck75 (P : Params) : List Obj := [o1104, o11, o1106 P, o1107, o1108 P, o11, o16, o1111, o11, o1113 P, o1114, o1115 P, o11, o16, o1118, o11, o1120 P, o1121, o1122 P, o11, o16, o1125 P, o1126, o1127 P]
noncomputable def objsEnd (P : Params) : List Obj := ck67 P ++ (ck1 P ++ (ck2 P ++ (ck3 P ++ (ck4 P ++ (ck5 P ++ (ck68 P ++ (ck9 P ++ (ck10 P ++ (ck13 P ++ (ck14 P ++ (ck15 P ++ (ck18 P ++ (ck19 P ++ (ck20 P ++ (ck21 P ++ (ck24 P ++ (ck25 P ++ (ck26 P ++ (ck27 P ++ (ck30 P ++ (ck31 P ++ (ck32 P ++ (ck33 P ++ (ck36 P ++ (ck37 P ++ (ck38 P ++ (ck39 P ++ (ck42 P ++ (ck43 P ++ (ck48 P ++ (ck49 P ++ (ck50 P ++ (ck56 P ++ (ck53 P ++ (ck57 P ++ (ck58 P ++ (ck64 P ++ (ck61 P ++ (ck65 P ++ (ck69 P ++ (ck70 P ++ (ck71 P ++ (ck72 P ++ (ck73 P ++ (ck74 P ++ (ck75 P))))))))))))))))))))))))))))))))))))))))))))))
noncomputable def sEnd (w : World) (os : OsState) : SharedT := shAt w os (objsEnd w.params) 1128 4092
noncomputable def segs0 : List (List Nat × Nat) := []
noncomputable def last0 : List Nat := []
noncomputable def run0 (w : World) (os : OsState) : Out := piece w segs0 last0 1437 (s0 w os) (t0 w os)
noncomputable def lhs0 (w : World) (os : OsState) : Res := resL (run0 w os)
noncomputable def rhs0 (w : World) (os : OsState) : Res := resR (run0 w os) (s1437 w os) (t1437 w os)
theorem twins0 : (fun (_ _ : World → OsState → Res) => true) lhs0 rhs0 = true := by k_qdec
noncomputable def segs1437 : List (List Nat × Nat) := []
noncomputable def last1437 : List Nat := [1091, 20, 49, 60, 302, 60, 302, 60, 47, 60, 47, 60, 302, 60, 302, 60, 302, 60]
noncomputable def run1437 (w : World) (os : OsState) : Out := piece w segs1437 last1437 300 (s1437 w os) (t1437 w os)
noncomputable def lhs1437 (w : World) (os : OsState) : Res := resL (run1437 w os)
noncomputable def rhs1437 (w : World) (os : OsState) : Res := resR (run1437 w os) (s4999 w os) (t4999 w os)
theorem twins1437 : (fun (_ _ : World → OsState → Res) => true) lhs1437 rhs1437 = true := by k_qdec
noncomputable def segs4999 : List (List Nat × Nat) := []
noncomputable def last4999 : List Nat := [81, 20, 49, 60, 302, 60, 302, 60, 302, 60, 47, 60, 302, 60, 378, 20, 49, 60, 302, 60, 302, 60]
noncomputable def run4999 (w : World) (os : OsState) : Out := piece w segs4999 last4999 300 (s4999 w os) (t4999 w os)
noncomputable def lhs4999 (w : World) (os : OsState) : Res := resL (run4999 w os)
noncomputable def rhs4999 (w : World) (os : OsState) : Res := resR (run4999 w os) (s8317 w os) (t8317 w os)
theorem twins4999 : (fun (_ _ : World → OsState → Res) => true) lhs4999 rhs4999 = true := by k_qdec
noncomputable def segs8317 : List (List Nat × Nat) := []
noncomputable def last8317 : List Nat := [83, 20, 49, 60, 302, 60, 47, 60, 302, 60, 302, 60, 302, 60, 47, 60, 302, 60, 381, 20, 49, 60, 47, 60, 302, 60, 47, 60, 47, 60, 47, 60]
noncomputable def run8317 (w : World) (os : OsState) : Out := piece w segs8317 last8317 300 (s8317 w os) (t8317 w os)
noncomputable def lhs8317 (w : World) (os : OsState) : Res := resL (run8317 w os)
noncomputable def rhs8317 (w : World) (os : OsState) : Res := resR (run8317 w os) (s12185 w os) (t12185 w os)
theorem twins8317 : (fun (_ _ : World → OsState → Res) => true) lhs8317 rhs8317 = true := by k_qdec
noncomputable def segs12185 : List (List Nat × Nat) := []
noncomputable def last12185 : List Nat := [82, 20, 49, 60, 47, 60, 47, 60, 47, 60, 47, 60, 47, 60, 383, 20, 49, 60, 302, 60, 302, 60, 302, 60, 302, 60, 302, 60, 302, 60, 302, 60]
noncomputable def run12185 (w : World) (os : OsState) : Out := piece w segs12185 last12185 300 (s12185 w os) (t12185 w os)
noncomputable def lhs12185 (w : World) (os : OsState) : Res := resL (run12185 w os)
noncomputable def rhs12185 (w : World) (os : OsState) : Res := resR (run12185 w os) (s16309 w os) (t16309 w os)
theorem twins12185 : (fun (_ _ : World → OsState → Res) => true) lhs12185 rhs12185 = true := by k_qdec
noncomputable def segs16309 : List (List Nat × Nat) := []
noncomputable def last16309 : List Nat := [82, 20, 49, 60, 302, 60, 47, 60, 47, 60, 47, 60, 47, 60, 384, 20, 49, 60, 302, 60, 302, 60, 302, 60, 302, 60, 302, 60, 302, 60, 302, 60]
noncomputable def run16309 (w : World) (os : OsState) : Out := piece w segs16309 last16309 300 (s16309 w os) (t16309 w os)
noncomputable def lhs16309 (w : World) (os : OsState) : Res := resL (run16309 w os)
noncomputable def rhs16309 (w : World) (os : OsState) : Res := resR (run16309 w os) (s20689 w os) (t20689 w os)
theorem twins16309 : (fun (_ _ : World → OsState → Res) => true) lhs16309 rhs16309 = true := by k_qdec
noncomputable def segs20689 : List (List Nat × Nat) := []
noncomputable def last20689 : List Nat := [77, 20, 49, 60, 302, 60, 379, 20, 49, 60, 47, 60, 302, 60, 302, 60, 383, 20, 49, 60, 47, 60, 47, 60, 47, 60, 47, 60, 47, 60, 302, 60, 302, 60]
noncomputable def run20689 (w : World) (os : OsState) : Out := piece w segs20689 last20689 300 (s20689 w os) (t20689 w os)
noncomputable def lhs20689 (w : World) (os : OsState) : Res := resL (run20689 w os)
noncomputable def rhs20689 (w : World) (os : OsState) : Res := resR (run20689 w os) (s24701 w os) (t24701 w os)
theorem twins20689 : (fun (_ _ : World → OsState → Res) => true) lhs20689 rhs20689 = true := by k_qdec
noncomputable def segs24701 : List (List Nat × Nat) := []
noncomputable def last24701 : List Nat := [277, 23, 336, 335, 335, 335]
noncomputable def run24701 (w : World) (os : OsState) : Out := piece w segs24701 last24701 350 (s24701 w os) (t24701 w os)
noncomputable def lhs24701 (w : World) (os : OsState) : Res := resL (run24701 w os)
noncomputable def rhs24701 (w : World) (os : OsState) : Res := resR (run24701 w os) (s26698 w os) (t26698 w os)
theorem twins24701 : (fun (_ _ : World → OsState → Res) => true) lhs24701 rhs24701 = true := by k_qdec
noncomputable def segs26698 : List (List Nat × Nat) := [([7], 9)]
noncomputable def last26698 : List Nat := [41, 52, 52, 52, 52, 52, 52, 52, 52, 52, 52, 52, 52, 52, 52, 52, 52, 52, 52, 52, 52, 52, 52, 52, 52, 52, 52, 52, 52, 52, 52, 52, 52, 52, 52, 52, 52, 52, 52, 52, 52, 52, 52, 52, 52, 52, 52, 52, 52, 52, 52, 52, 52, 52, 52, 52, 52, 52, 52]
noncomputable def run26698 (w : World) (os : OsState) : Out := piece w segs26698 last26698 42 (s26698 w os) (t26698 w os)
noncomputable def lhs26698 (w : World) (os : OsState) : Res := resL (run26698 w os)
noncomputable def rhs26698 (w : World) (os : OsState) : Res := resR (run26698 w os) (s29874 w os) (t29874 w os)
theorem twins26698 : (fun (_ _ : World → OsState → Res) => true) lhs26698 rhs26698 = true := by k_qdec
noncomputable def segs29874 : List (List Nat × Nat) := [([7], 9)]
noncomputable def last29874 : List Nat := [49, 26, 58, 26, 58, 3, 26, 58, 3, 53, 3, 53, 3, 53, 3, 53, 3, 53, 3, 53, 3, 53, 3, 53, 3, 53, 3, 53, 3, 53, 3, 53, 3, 53, 3, 53, 3, 53, 3, 53, 3, 53, 3, 53, 3, 53, 3, 53, 3, 53, 3, 53, 3, 53, 3, 53, 3, 53, 3, 53, 3, 53, 3, 53, 3, 53, 3, 53, 3, 53, 3, 53, 3, 53, 3, 53, 3, 53, 3, 53, 3, 53, 3, 53, 3, 53, 3, 53, 3, 53, 3, 53, 3, 53, 3, 53, 3, 53, 3, 53, 3, 53, 3, 53, 3, 53, 3, 53, 3, 53, 3, 53, 3, 53, 3, 53, 3, 53, 3]
noncomputable def run29874 (w : World) (os : OsState) : Out := piece w segs29874 last29874 35 (s29874 w os) (t29874 w os)
noncomputable def lhs29874 (w : World) (os : OsState) : Res := resL (run29874 w os)
noncomputable def rhs29874 (w : World) (os : OsState) : Res := resR (run29874 w os) (s33433 w os) (t33433 w os)
theorem twins29874 : (fun (_ _ : World → OsState → Res) => true) lhs29874 rhs29874 = true := by k_qdec
noncomputable def segs33433 : List (List Nat × Nat) := [([7], 9)]
noncomputable def last33433 : List Nat := [53, 3, 3, 3, 3, 3, 57, 3, 3, 3, 3, 3, 57, 3, 3, 3, 3, 3, 57, 124, 62, 3, 3, 124, 62, 3, 3, 123, 62, 3, 3, 123, 62, 3, 3, 123, 62, 3, 3, 123, 62, 3, 3, 123, 62, 124, 62, 123, 62, 123, 62, 123, 62, 123, 62, 3, 124, 62, 3, 123, 62, 3, 123, 62, 124, 62, 123, 62, 123, 62, 123]
noncomputable def run33433 (w : World) (os : OsState) : Out := piece w segs33433 last33433 10 (s33433 w os) (t33433 w os)
noncomputable def lhs33433 (w : World) (os : OsState) : Res := resL (run33433 w os)
noncomputable def rhs33433 (w : World) (os : OsState) : Res := resR (run33433 w os) (s37304 w os) (t37304 w os)
theorem twins33433 : (fun (_ _ : World → OsState → Res) => true) lhs33433 rhs33433 = true := by k_qdec
noncomputable def segs37304 : List (List Nat × Nat) := []
noncomputable def last37304 : List Nat := [52, 123, 62, 123, 62, 3, 3, 3, 3, 3, 57, 3, 3, 3, 3, 3, 57, 3, 3, 3, 3, 3, 57, 3, 3, 3, 3, 3, 57, 3, 3, 3, 3, 3, 57, 3, 3, 3, 3, 3, 57, 3, 3, 3, 3, 3, 57, 3, 3, 3, 3, 3, 57, 3, 3, 3, 3, 3, 57, 3, 3, 3, 3, 3, 57, 3, 3, 3, 3, 3, 57, 3, 3, 3, 3, 3, 57, 3, 3, 3, 3, 3, 57, 3, 3, 3, 3, 3, 57, 3, 3, 3, 3, 3, 57, 3, 3, 3, 3, 3, 57, 3, 3, 3, 3, 3, 57, 3, 3, 3, 3, 3, 57, 3, 3, 3, 3, 3, 57, 3, 3, 3, 3, 3, 57, 3, 3, 3, 3, 3, 57, 3, 3, 3, 124, 62, 3, 3, 3, 123, 62, 3, 3, 3, 3, 123, 62, 3, 3, 3, 3, 123, 62, 3, 3, 3, 3, 123, 62, 3, 3, 3, 3, 3, 123, 62, 3, 3, 3, 3, 3, 123, 62, 3, 3, 3, 3, 3, 123, 62, 3, 3, 3, 3, 3, 57, 3, 3, 3, 3, 3, 57, 3, 3, 3, 3, 3, 57, 3, 3, 3, 3, 3, 57, 3, 3, 3, 3, 3, 57, 3, 3, 3, 3, 3]
noncomputable def run37304 (w : World) (os : OsState) : Out := piece w segs37304 last37304 35 (s37304 w os) (t37304 w os)
noncomputable def lhs37304 (w : World) (os : OsState) : Res := resL (run37304 w os)
noncomputable def rhs37304 (w : World) (os : OsState) : Res := resR (run37304 w os) (s41443 w os) (t41443 w os)
theorem twins37304 : (fun (_ _ : World → OsState → Res) => true) lhs37304 rhs37304 = true := by k_qdec
noncomputable def segs41443 : List (List Nat × Nat) := [([7], 9)]
noncomputable def last41443 : List Nat := [50, 3, 3, 54, 3, 3, 54, 3, 3, 54, 3, 3, 54, 3, 3, 54, 3, 3, 54, 3, 3, 54, 3, 3, 54, 3, 3, 54, 3, 3, 54, 3, 3, 54, 3, 3, 54, 3, 3, 54, 3, 3, 54, 3, 3, 54, 3, 3, 54, 3, 3, 54, 3, 3, 54, 3, 3, 54, 3, 3, 54, 3, 3, 54, 3, 3, 54, 3, 3, 54, 3, 3, 54, 3, 123, 59, 3, 123, 59, 3, 122, 59, 124, 59, 123, 59, 123, 59, 123, 59, 123]
noncomputable def run41443 (w : World) (os : OsState) : Out := piece w segs41443 last41443 10 (s41443 w os) (t41443 w os)
noncomputable def lhs41443 (w : World) (os : OsState) : Res := resL (run41443 w os)
noncomputable def rhs41443 (w : World) (os : OsState) : Res := resR (run41443 w os) (s44458 w os) (t44458 w os)
theorem twins41443 : (fun (_ _ : World → OsState → Res) => true) lhs41443 rhs41443 = true := by k_qdec
noncomputable def segs44458 : List (List Nat × Nat) := []
noncomputable def last44458 : List Nat := [49, 123, 59, 123, 59, 123, 59, 123, 59, 122, 59, 123, 59, 122, 59, 122, 59, 122, 59, 122, 59, 122, 59, 122, 59, 122, 59, 3, 3, 54, 3, 3, 54, 3, 3, 54, 3, 3, 54, 3, 3, 54, 3, 3, 54, 3, 3, 54, 3, 3, 54, 3, 3, 123, 59, 3, 3, 54, 3, 3, 54, 3, 3, 54, 3, 3, 54, 3, 3]
noncomputable def run44458 (w : World) (os : OsState) : Out := piece w segs44458 last44458 35 (s44458 w os) (t44458 w os)
noncomputable def lhs44458 (w : World) (os : OsState) : Res := resL (run44458 w os)
noncomputable def rhs44458 (w : World) (os : OsState) : Res := resR (run44458 w os) (s47883 w os) (t47883 w os)
theorem twins44458 : (fun (_ _ : World → OsState → Res) => true) lhs44458 rhs44458 = true := by k_qdec
noncomputable def segs47883 : List (List Nat × Nat) := [([7], 9)]
noncomputable def last47883 : List Nat := [40, 43, 43, 43, 43, 43, 43, 43, 43, 43, 43, 43, 43, 43, 43, 43, 43, 43, 43, 43, 43, 43, 43, 43, 43, 43, 43, 43, 43, 43, 43, 43, 43, 43, 43, 43, 43, 43, 43, 43, 43, 43, 43, 43, 43, 43, 43, 43, 43, 43, 43, 43, 43, 43, 43, 25, 49, 25, 49, 25, 49, 25, 49, 25, 257, 11, 11, 11, 11, 11, 11, 11, 11, 11, 11, 11, 97, 11, 11, 11, 11, 11, 11, 11]
noncomputable def run47883 (w : World) (os : OsState) : Out := piece w segs47883 last47883 536 (s47883 w os) (t47883 w os)
noncomputable def lhs47883 (w : World) (os : OsState) : ResE := resLE w (run47883 w os)
noncomputable def rhs47883 (w : World) (os : OsState) : ResE := resRE (run47883 w os) (sEnd w os)
theorem twins47883 : (fun (_ _ : World → OsState → ResE) => true) lhs47883 rhs47883 = true := by k_qdec
noncomputable def keepL : List Nat := [0, 2, 3, 4, 6, 7, 8, 9, 10, 11, 12, 13, 14, 15, 16, 17, 18, 20, 21, 22, 23, 24, 25, 26, 27, 28, 29, 30, 31, 32, 34, 35, 36, 37, 38, 39, 40, 41]
noncomputable def qv : Program := view pwF keepL
noncomputable def looseL : List Str := ["BoardError", "numbered", "Known", "USED", "RANGES"]
noncomputable def rr : RowW := OpenRow.toRowW PySem.Challenge.rw_pf0216_01.row
noncomputable def Xt0 : Shared → Bool := fun s => xlAt qv [] s && recOk (RowW.records rr) s
noncomputable def XtF : Shared → Bool := fun s => xlAt qv [] s && recOk [] s
noncomputable def K0 : Params → Frag := fun P => (nat_lit 2, boot_o_2 P) ::
  (nat_lit 3, o3a P) ::
  (nat_lit 15, o11) ::
  (nat_lit 17, o17) ::
  (nat_lit 18, o11) ::
  (nat_lit 20, o20) ::
  (nat_lit 21, o21 P) ::
  (nat_lit 22, o22) ::
  (nat_lit 29, o29) ::
  (nat_lit 30, o11) ::
  (nat_lit 32, o32) ::
  (nat_lit 33, o11) ::
  (nat_lit 35, o35) ::
  (nat_lit 36, o36 P) ::
  (nat_lit 37, o37) ::
  (nat_lit 38, o38 P) ::
  (nat_lit 39, o39) ::
  (nat_lit 40, o40) ::
  (nat_lit 43, o43) ::
  (nat_lit 50, o11) ::
  (nat_lit 51, o51 P) ::
  (nat_lit 52, o52) ::
  (nat_lit 55, o43) ::
  (nat_lit 62, o11) ::
  (nat_lit 64, o64) ::
  (nat_lit 65, o11) ::
  (nat_lit 67, o67) ::
  (nat_lit 68, o68 P) ::
  (nat_lit 69, o69) ::
  (nat_lit 70, o70 P) ::
  (nat_lit 71, o71) ::
  (nat_lit 81, o81) ::
  (nat_lit 82, o11) ::
  (nat_lit 84, o84) ::
  (nat_lit 85, o11) ::
  (nat_lit 87, o87) ::
  (nat_lit 88, o88 P) ::
  (nat_lit 89, o11) ::
  (nat_lit 91, o91) ::
  (nat_lit 92, o11) ::
  (nat_lit 94, o94) ::
  (nat_lit 95, o95 P) ::
  (nat_lit 96, o96) ::
  (nat_lit 97, o97 P) ::
  (nat_lit 98, o98) ::
  (nat_lit 99, o99) ::
  (nat_lit 100, o100) ::
  (nat_lit 110, o110) ::
  (nat_lit 111, o11) ::
  (nat_lit 113, o113) ::
  (nat_lit 114, o11) ::
  (nat_lit 116, o116) ::
  (nat_lit 117, o117 P) ::
  (nat_lit 118, o11) ::
  (nat_lit 120, o120) ::
  (nat_lit 121, o11) ::
  (nat_lit 123, o123) ::
  (nat_lit 124, o124 P) ::
  (nat_lit 125, o125) ::
  (nat_lit 126, o126 P) ::
  (nat_lit 127, o127) ::
  (nat_lit 128, o128) ::
  (nat_lit 129, o129) ::
  (nat_lit 155, o155 P) ::
  (nat_lit 156, o156) ::
  (nat_lit 158, o158 P) ::
  (nat_lit 159, o159) ::
  (nat_lit 161, o161 P) ::
  (nat_lit 162, o162) ::
  (nat_lit 164, o164 P) ::
  (nat_lit 165, o165) ::
  (nat_lit 167, o167f) ::
  (nat_lit 177, o177 P) ::
  (nat_lit 178, o178) ::
  (nat_lit 184, o184 P) ::
  (nat_lit 185, o185) ::
  (nat_lit 199, o199 P) ::
  (nat_lit 200, o200) ::
  (nat_lit 206, o206 P) ::
  (nat_lit 207, o207) ::
  (nat_lit 213, o213 P) ::
  (nat_lit 214, o214) ::
  (nat_lit 220, o220 P) ::
  (nat_lit 221, o221) ::
  (nat_lit 234, o234 P) ::
  (nat_lit 235, o235) ::
  (nat_lit 241, o241 P) ::
  (nat_lit 242, o242) ::
  (nat_lit 248, o248 P) ::
  (nat_lit 249, o249) ::
  (nat_lit 259, o259 P) ::
  (nat_lit 260, o260) ::
  (nat_lit 266, o266 P) ::
  (nat_lit 267, o267) ::
  (nat_lit 280, o280 P) ::
  (nat_lit 281, o281) ::
  (nat_lit 287, o287 P) ::
  (nat_lit 288, o288) ::
  (nat_lit 294, o294 P) ::
  (nat_lit 295, o295) ::
  (nat_lit 308, o308 P) ::
  (nat_lit 309, o309) ::
  (nat_lit 319, o319 P) ::
  (nat_lit 320, o320) ::
  (nat_lit 326, o326 P) ::
  (nat_lit 327, o327) ::
  (nat_lit 333, o333 P) ::
  (nat_lit 334, o334) ::
  (nat_lit 344, o344 P) ::
  (nat_lit 345, o345) ::
  (nat_lit 351, o351 P) ::
  (nat_lit 352, o352) ::
  (nat_lit 369, o369 P) ::
  (nat_lit 370, o370) ::
  (nat_lit 388, o388 P) ::
  (nat_lit 389, o389) ::
  (nat_lit 422, o422 P) ::
  (nat_lit 423, o423) ::
  (nat_lit 436, o436 P) ::
  (nat_lit 437, o437) ::
  (nat_lit 443, o443 P) ::
  (nat_lit 444, o444) ::
  (nat_lit 450, o450 P) ::
  (nat_lit 451, o451) ::
  (nat_lit 457, o457 P) ::
  (nat_lit 458, o458) ::
  (nat_lit 464, o464 P) ::
  (nat_lit 465, o465) ::
  (nat_lit 471, o471 P) ::
  (nat_lit 472, o472) ::
  (nat_lit 478, o478 P) ::
  (nat_lit 479, o479) ::
  (nat_lit 485, o485 P) ::
  (nat_lit 486, o486) ::
  (nat_lit 499, o499 P) ::
  (nat_lit 500, o500) ::
  (nat_lit 522, o522 P) ::
  (nat_lit 523, o523) ::
  (nat_lit 536, o536 P) ::
  (nat_lit 537, o537) ::
  (nat_lit 543, o543 P) ::
  (nat_lit 544, o544) ::
  (nat_lit 550, o550 P) ::
  (nat_lit 551, o551) ::
  (nat_lit 557, o557 P) ::
  (nat_lit 558, o558) ::
  (nat_lit 564, o564 P) ::
  (nat_lit 565, o565) ::
  (nat_lit 571, o571 P) ::
  (nat_lit 572, o572) ::
  (nat_lit 578, o578 P) ::
  (nat_lit 579, o579) ::
  (nat_lit 585, o585 P) ::
  (nat_lit 586, o586) ::
  (nat_lit 599, o599 P) ::
  (nat_lit 600, o600) ::
  (nat_lit 606, o606 P) ::
  (nat_lit 607, o607) ::
  (nat_lit 624, o624 P) ::
  (nat_lit 625, o625) ::
  (nat_lit 631, o631 P) ::
  (nat_lit 632, o632) ::
  (nat_lit 638, o638 P) ::
  (nat_lit 639, o639) ::
  (nat_lit 672, o672 P) ::
  (nat_lit 673, o673) ::
  (nat_lit 679, o679 P) ::
  (nat_lit 680, o680) ::
  (nat_lit 686, o686 P) ::
  (nat_lit 687, o687) ::
  (nat_lit 691, o691 P) ::
  (nat_lit 692, o692) ::
  (nat_lit 704, o704 P) ::
  (nat_lit 705, o705) ::
  (nat_lit 710, o710 P) ::
  (nat_lit 711, o711) ::
  (nat_lit 716, o716 P) ::
  (nat_lit 717, o717) ::
  (nat_lit 722, o722 P) ::
  (nat_lit 723, o723) ::
  (nat_lit 728, o728 P) ::
  (nat_lit 729, o729) ::
  (nat_lit 734, o734 P) ::
  (nat_lit 739, o739) ::
  (nat_lit 803, o803a) ::
  (nat_lit 896, o896a) ::
  (nat_lit 982, o982) ::
  (nat_lit 986, o11) ::
  (nat_lit 987, o987 P) ::
  (nat_lit 988, o988) ::
  (nat_lit 989, o989) ::
  (nat_lit 990, o990) ::
  (nat_lit 993, o993 P) ::
  (nat_lit 994, o994) ::
  (nat_lit 995, o995) ::
  (nat_lit 996, o996) ::
  (nat_lit 997, o997) ::
  (nat_lit 998, o998) ::
  (nat_lit 999, o999) ::
  (nat_lit 1000, o1000) ::
  (nat_lit 1001, o1001) ::
  (nat_lit 1002, o1002) ::
  (nat_lit 1003, o1003) ::
  (nat_lit 1004, o1004) ::
  (nat_lit 1005, o11) ::
  (nat_lit 1006, o1006 P) ::
  (nat_lit 1007, o1007) ::
  (nat_lit 1008, o1008) ::
  (nat_lit 1009, o1009) ::
  (nat_lit 1010, o1010) ::
  (nat_lit 1011, o1011) ::
  (nat_lit 1012, o1012) ::
  (nat_lit 1013, o1013) ::
  (nat_lit 1014, o1014) ::
  (nat_lit 1015, o11) ::
  (nat_lit 1017, o1017) ::
  (nat_lit 1018, o11) ::
  (nat_lit 1020, o1020) ::
  (nat_lit 1021, o1021 P) ::
  (nat_lit 1022, o11) ::
  (nat_lit 1024, o1024) ::
  (nat_lit 1025, o11) ::
  (nat_lit 1027, o1027) ::
  (nat_lit 1028, o1028 P) ::
  (nat_lit 1029, o11) ::
  (nat_lit 1031, o1031) ::
  (nat_lit 1032, o11) ::
  (nat_lit 1034, o1034) ::
  (nat_lit 1035, o1035 P) ::
  (nat_lit 1036, o11) ::
  (nat_lit 1038, o1038) ::
  (nat_lit 1039, o11) ::
  (nat_lit 1041, o1041) ::
  (nat_lit 1042, o1042 P) ::
  (nat_lit 1043, o11) ::
  (nat_lit 1045, o1045) ::
  (nat_lit 1046, o11) ::
  (nat_lit 1048, o1048) ::
  (nat_lit 1049, o1049 P) ::
  (nat_lit 1050, o11) ::
  (nat_lit 1052, o1052) ::
  (nat_lit 1053, o11) ::
  (nat_lit 1055, o1055) ::
  (nat_lit 1056, o1056 P) ::
  (nat_lit 1057, o11) ::
  (nat_lit 1059, o1059) ::
  (nat_lit 1060, o11) ::
  (nat_lit 1062, o1062) ::
  (nat_lit 1063, o1063 P) ::
  (nat_lit 1064, o11) ::
  (nat_lit 1066, o1066) ::
  (nat_lit 1067, o11) ::
  (nat_lit 1069, o1069) ::
  (nat_lit 1070, o1070 P) ::
  (nat_lit 1071, o11) ::
  (nat_lit 1073, o1073) ::
  (nat_lit 1074, o11) ::
  (nat_lit 1076, o1076) ::
  (nat_lit 1077, o1077 P) ::
  (nat_lit 1078, o11) ::
  (nat_lit 1080, o1080) ::
  (nat_lit 1081, o11) ::
  (nat_lit 1083, o1083) ::
  (nat_lit 1084, o1084 P) ::
  (nat_lit 1085, o11) ::
  (nat_lit 1088, o1088) ::
  (nat_lit 1089, o1089 P) ::
  (nat_lit 1090, o11) ::
  (nat_lit 1093, o1093) ::
  (nat_lit 1094, o1094 P) ::
  (nat_lit 1095, o11) ::
  (nat_lit 1097, o1097) ::
  (nat_lit 1098, o11) ::
  (nat_lit 1100, o1100) ::
  (nat_lit 1101, o1101 P) ::
  (nat_lit 1102, o11) ::
  (nat_lit 1104, o1104) ::
  (nat_lit 1105, o11) ::
  (nat_lit 1107, o1107) ::
  (nat_lit 1108, o1108 P) ::
  (nat_lit 1109, o11) ::
  (nat_lit 1111, o1111) ::
  (nat_lit 1112, o11) ::
  (nat_lit 1114, o1114) ::
  (nat_lit 1115, o1115 P) ::
  (nat_lit 1116, o11) ::
  (nat_lit 1118, o1118) ::
  (nat_lit 1119, o11) ::
  (nat_lit 1121, o1121) ::
  (nat_lit 1122, o1122 P) ::
  (nat_lit 1123, o11) ::
  (nat_lit 1126, o1126) ::
  (nat_lit 1127, o1127 P) :: []
noncomputable def kk0 (P : Params) : Frag := [(nat_lit 2, boot_o_2 P), (nat_lit 3, o3a P), (nat_lit 15, o11), (nat_lit 17, o17), (nat_lit 18, o11), (nat_lit 20, o20), (nat_lit 21, o21 P), (nat_lit 22, o22), (nat_lit 29, o29), (nat_lit 30, o11), (nat_lit 32, o32), (nat_lit 33, o11), (nat_lit 35, o35), (nat_lit 36, o36 P), (nat_lit 37, o37), (nat_lit 38, o38 P), (nat_lit 39, o39), (nat_lit 40, o40), (nat_lit 43, o43), (nat_lit 50, o11), (nat_lit 51, o51 P), (nat_lit 52, o52), (nat_lit 55, o43), (nat_lit 62, o11)]
noncomputable def kk1 (P : Params) : Frag := [(nat_lit 64, o64), (nat_lit 65, o11), (nat_lit 67, o67), (nat_lit 68, o68 P), (nat_lit 69, o69), (nat_lit 70, o70 P), (nat_lit 71, o71), (nat_lit 81, o81), (nat_lit 82, o11), (nat_lit 84, o84), (nat_lit 85, o11), (nat_lit 87, o87), (nat_lit 88, o88 P), (nat_lit 89, o11), (nat_lit 91, o91), (nat_lit 92, o11), (nat_lit 94, o94), (nat_lit 95, o95 P), (nat_lit 96, o96), (nat_lit 97, o97 P), (nat_lit 98, o98), (nat_lit 99, o99), (nat_lit 100, o100), (nat_lit 110, o110)]
noncomputable def kk2 (P : Params) : Frag := [(nat_lit 111, o11), (nat_lit 113, o113), (nat_lit 114, o11), (nat_lit 116, o116), (nat_lit 117, o117 P), (nat_lit 118, o11), (nat_lit 120, o120), (nat_lit 121, o11), (nat_lit 123, o123), (nat_lit 124, o124 P), (nat_lit 125, o125), (nat_lit 126, o126 P), (nat_lit 127, o127), (nat_lit 128, o128), (nat_lit 129, o129), (nat_lit 155, o155 P), (nat_lit 156, o156), (nat_lit 158, o158 P), (nat_lit 159, o159), (nat_lit 161, o161 P), (nat_lit 162, o162), (nat_lit 164, o164 P), (nat_lit 165, o165), (nat_lit 167, o167f)]
noncomputable def kk3 (P : Params) : Frag := [(nat_lit 177, o177 P), (nat_lit 178, o178), (nat_lit 184, o184 P), (nat_lit 185, o185), (nat_lit 199, o199 P), (nat_lit 200, o200), (nat_lit 206, o206 P), (nat_lit 207, o207), (nat_lit 213, o213 P), (nat_lit 214, o214), (nat_lit 220, o220 P), (nat_lit 221, o221), (nat_lit 234, o234 P), (nat_lit 235, o235), (nat_lit 241, o241 P), (nat_lit 242, o242), (nat_lit 248, o248 P), (nat_lit 249, o249), (nat_lit 259, o259 P), (nat_lit 260, o260), (nat_lit 266, o266 P), (nat_lit 267, o267), (nat_lit 280, o280 P), (nat_lit 281, o281)]
noncomputable def kk4 (P : Params) : Frag := [(nat_lit 287, o287 P), (nat_lit 288, o288), (nat_lit 294, o294 P), (nat_lit 295, o295), (nat_lit 308, o308 P), (nat_lit 309, o309), (nat_lit 319, o319 P), (nat_lit 320, o320), (nat_lit 326, o326 P), (nat_lit 327, o327), (nat_lit 333, o333 P), (nat_lit 334, o334), (nat_lit 344, o344 P), (nat_lit 345, o345), (nat_lit 351, o351 P), (nat_lit 352, o352), (nat_lit 369, o369 P), (nat_lit 370, o370), (nat_lit 388, o388 P), (nat_lit 389, o389), (nat_lit 422, o422 P), (nat_lit 423, o423), (nat_lit 436, o436 P), (nat_lit 437, o437)]
noncomputable def kk5 (P : Params) : Frag := [(nat_lit 443, o443 P), (nat_lit 444, o444), (nat_lit 450, o450 P), (nat_lit 451, o451), (nat_lit 457, o457 P), (nat_lit 458, o458), (nat_lit 464, o464 P), (nat_lit 465, o465), (nat_lit 471, o471 P), (nat_lit 472, o472), (nat_lit 478, o478 P), (nat_lit 479, o479), (nat_lit 485, o485 P), (nat_lit 486, o486), (nat_lit 499, o499 P), (nat_lit 500, o500), (nat_lit 522, o522 P), (nat_lit 523, o523), (nat_lit 536, o536 P), (nat_lit 537, o537), (nat_lit 543, o543 P), (nat_lit 544, o544), (nat_lit 550, o550 P), (nat_lit 551, o551)]
noncomputable def kk6 (P : Params) : Frag := [(nat_lit 557, o557 P), (nat_lit 558, o558), (nat_lit 564, o564 P), (nat_lit 565, o565), (nat_lit 571, o571 P), (nat_lit 572, o572), (nat_lit 578, o578 P), (nat_lit 579, o579), (nat_lit 585, o585 P), (nat_lit 586, o586), (nat_lit 599, o599 P), (nat_lit 600, o600), (nat_lit 606, o606 P), (nat_lit 607, o607), (nat_lit 624, o624 P), (nat_lit 625, o625), (nat_lit 631, o631 P), (nat_lit 632, o632), (nat_lit 638, o638 P), (nat_lit 639, o639), (nat_lit 672, o672 P), (nat_lit 673, o673), (nat_lit 679, o679 P), (nat_lit 680, o680)]
noncomputable def kk7 (P : Params) : Frag := [(nat_lit 686, o686 P), (nat_lit 687, o687), (nat_lit 691, o691 P), (nat_lit 692, o692), (nat_lit 704, o704 P), (nat_lit 705, o705), (nat_lit 710, o710 P), (nat_lit 711, o711), (nat_lit 716, o716 P), (nat_lit 717, o717), (nat_lit 722, o722 P), (nat_lit 723, o723), (nat_lit 728, o728 P), (nat_lit 729, o729), (nat_lit 734, o734 P), (nat_lit 739, o739), (nat_lit 803, o803a), (nat_lit 896, o896a), (nat_lit 982, o982), (nat_lit 986, o11), (nat_lit 987, o987 P), (nat_lit 988, o988), (nat_lit 989, o989), (nat_lit 990, o990)]
noncomputable def kk8 (P : Params) : Frag := [(nat_lit 993, o993 P), (nat_lit 994, o994), (nat_lit 995, o995), (nat_lit 996, o996), (nat_lit 997, o997), (nat_lit 998, o998), (nat_lit 999, o999), (nat_lit 1000, o1000), (nat_lit 1001, o1001), (nat_lit 1002, o1002), (nat_lit 1003, o1003), (nat_lit 1004, o1004), (nat_lit 1005, o11), (nat_lit 1006, o1006 P), (nat_lit 1007, o1007), (nat_lit 1008, o1008), (nat_lit 1009, o1009), (nat_lit 1010, o1010), (nat_lit 1011, o1011), (nat_lit 1012, o1012), (nat_lit 1013, o1013), (nat_lit 1014, o1014), (nat_lit 1015, o11), (nat_lit 1017, o1017)]
noncomputable def kk9 (P : Params) : Frag := [(nat_lit 1018, o11), (nat_lit 1020, o1020), (nat_lit 1021, o1021 P), (nat_lit 1022, o11), (nat_lit 1024, o1024), (nat_lit 1025, o11), (nat_lit 1027, o1027), (nat_lit 1028, o1028 P), (nat_lit 1029, o11), (nat_lit 1031, o1031), (nat_lit 1032, o11), (nat_lit 1034, o1034), (nat_lit 1035, o1035 P), (nat_lit 1036, o11), (nat_lit 1038, o1038), (nat_lit 1039, o11), (nat_lit 1041, o1041), (nat_lit 1042, o1042 P), (nat_lit 1043, o11), (nat_lit 1045, o1045), (nat_lit 1046, o11), (nat_lit 1048, o1048), (nat_lit 1049, o1049 P), (nat_lit 1050, o11)]
noncomputable def kk10 (P : Params) : Frag := [(nat_lit 1052, o1052), (nat_lit 1053, o11), (nat_lit 1055, o1055), (nat_lit 1056, o1056 P), (nat_lit 1057, o11), (nat_lit 1059, o1059), (nat_lit 1060, o11), (nat_lit 1062, o1062), (nat_lit 1063, o1063 P), (nat_lit 1064, o11), (nat_lit 1066, o1066), (nat_lit 1067, o11), (nat_lit 1069, o1069), (nat_lit 1070, o1070 P), (nat_lit 1071, o11), (nat_lit 1073, o1073), (nat_lit 1074, o11), (nat_lit 1076, o1076), (nat_lit 1077, o1077 P), (nat_lit 1078, o11), (nat_lit 1080, o1080), (nat_lit 1081, o11), (nat_lit 1083, o1083), (nat_lit 1084, o1084 P)]
noncomputable def kk11 (P : Params) : Frag := [(nat_lit 1085, o11), (nat_lit 1088, o1088), (nat_lit 1089, o1089 P), (nat_lit 1090, o11), (nat_lit 1093, o1093), (nat_lit 1094, o1094 P), (nat_lit 1095, o11), (nat_lit 1097, o1097), (nat_lit 1098, o11), (nat_lit 1100, o1100), (nat_lit 1101, o1101 P), (nat_lit 1102, o11), (nat_lit 1104, o1104), (nat_lit 1105, o11), (nat_lit 1107, o1107), (nat_lit 1108, o1108 P), (nat_lit 1109, o11), (nat_lit 1111, o1111), (nat_lit 1112, o11), (nat_lit 1114, o1114), (nat_lit 1115, o1115 P), (nat_lit 1116, o11), (nat_lit 1118, o1118), (nat_lit 1119, o11)]
noncomputable def kk12 (P : Params) : Frag := [(nat_lit 1121, o1121), (nat_lit 1122, o1122 P), (nat_lit 1123, o11), (nat_lit 1126, o1126), (nat_lit 1127, o1127 P)]
noncomputable def K0c : Params → Frag := fun P => kk0 P ++ (kk1 P ++ (kk2 P ++ (kk3 P ++ (kk4 P ++ (kk5 P ++ (kk6 P ++ (kk7 P ++ (kk8 P ++ (kk9 P ++ (kk10 P ++ (kk11 P ++ (kk12 P))))))))))))
theorem K0c_eq (P : Params) : K0c P = K0 P := by kernel_rfl
noncomputable def as0 : List Addr := nat_lit 2 :: nat_lit 3 :: nat_lit 15 :: nat_lit 17 :: nat_lit 18 :: nat_lit 20 :: nat_lit 21 :: nat_lit 22 :: nat_lit 29 :: nat_lit 30 :: nat_lit 32 :: nat_lit 33 :: nat_lit 35 :: nat_lit 36 :: nat_lit 37 :: nat_lit 38 :: nat_lit 39 :: nat_lit 40 :: nat_lit 43 :: nat_lit 50 :: nat_lit 51 :: nat_lit 52 :: nat_lit 55 :: nat_lit 62 :: nat_lit 64 :: nat_lit 65 :: nat_lit 67 :: nat_lit 68 :: nat_lit 69 :: nat_lit 70 :: nat_lit 71 :: nat_lit 81 :: nat_lit 82 :: nat_lit 84 :: nat_lit 85 :: nat_lit 87 :: nat_lit 88 :: nat_lit 89 :: nat_lit 91 :: nat_lit 92 :: nat_lit 94 :: nat_lit 95 :: nat_lit 96 :: nat_lit 97 :: nat_lit 98 :: nat_lit 99 :: nat_lit 100 :: nat_lit 110 :: nat_lit 111 :: nat_lit 113 :: nat_lit 114 :: nat_lit 116 :: nat_lit 117 :: nat_lit 118 :: nat_lit 120 :: nat_lit 121 :: nat_lit 123 :: nat_lit 124 :: nat_lit 125 :: nat_lit 126 :: nat_lit 127 :: nat_lit 128 :: nat_lit 129 :: nat_lit 155 :: nat_lit 156 :: nat_lit 158 :: nat_lit 159 :: nat_lit 161 :: nat_lit 162 :: nat_lit 164 :: nat_lit 165 :: nat_lit 167 :: nat_lit 177 :: nat_lit 178 :: nat_lit 184 :: nat_lit 185 :: nat_lit 199 :: nat_lit 200 :: nat_lit 206 :: nat_lit 207 :: nat_lit 213 :: nat_lit 214 :: nat_lit 220 :: nat_lit 221 :: nat_lit 234 :: nat_lit 235 :: nat_lit 241 :: nat_lit 242 :: nat_lit 248 :: nat_lit 249 :: nat_lit 259 :: nat_lit 260 :: nat_lit 266 :: nat_lit 267 :: nat_lit 280 :: nat_lit 281 :: nat_lit 287 :: nat_lit 288 :: nat_lit 294 :: nat_lit 295 :: nat_lit 308 :: nat_lit 309 :: nat_lit 319 :: nat_lit 320 :: nat_lit 326 :: nat_lit 327 :: nat_lit 333 :: nat_lit 334 :: nat_lit 344 :: nat_lit 345 :: nat_lit 351 :: nat_lit 352 :: nat_lit 369 :: nat_lit 370 :: nat_lit 388 :: nat_lit 389 :: nat_lit 422 :: nat_lit 423 :: nat_lit 436 :: nat_lit 437 :: nat_lit 443 :: nat_lit 444 :: nat_lit 450 :: nat_lit 451 :: nat_lit 457 :: nat_lit 458 :: nat_lit 464 :: nat_lit 465 :: nat_lit 471 :: nat_lit 472 :: nat_lit 478 :: nat_lit 479 :: nat_lit 485 :: nat_lit 486 :: nat_lit 499 :: nat_lit 500 :: nat_lit 522 :: nat_lit 523 :: nat_lit 536 :: nat_lit 537 :: nat_lit 543 :: nat_lit 544 :: nat_lit 550 :: nat_lit 551 :: nat_lit 557 :: nat_lit 558 :: nat_lit 564 :: nat_lit 565 :: nat_lit 571 :: nat_lit 572 :: nat_lit 578 :: nat_lit 579 :: nat_lit 585 :: nat_lit 586 :: nat_lit 599 :: nat_lit 600 :: nat_lit 606 :: nat_lit 607 :: nat_lit 624 :: nat_lit 625 :: nat_lit 631 :: nat_lit 632 :: nat_lit 638 :: nat_lit 639 :: nat_lit 672 :: nat_lit 673 :: nat_lit 679 :: nat_lit 680 :: nat_lit 686 :: nat_lit 687 :: nat_lit 691 :: nat_lit 692 :: nat_lit 704 :: nat_lit 705 :: nat_lit 710 :: nat_lit 711 :: nat_lit 716 :: nat_lit 717 :: nat_lit 722 :: nat_lit 723 :: nat_lit 728 :: nat_lit 729 :: nat_lit 734 :: nat_lit 739 :: nat_lit 803 :: nat_lit 896 :: nat_lit 982 :: nat_lit 986 :: nat_lit 987 :: nat_lit 988 :: nat_lit 989 :: nat_lit 990 :: nat_lit 993 :: nat_lit 994 :: nat_lit 995 :: nat_lit 996 :: nat_lit 997 :: nat_lit 998 :: nat_lit 999 :: nat_lit 1000 :: nat_lit 1001 :: nat_lit 1002 :: nat_lit 1003 :: nat_lit 1004 :: nat_lit 1005 :: nat_lit 1006 :: nat_lit 1007 :: nat_lit 1008 :: nat_lit 1009 :: nat_lit 1010 :: nat_lit 1011 :: nat_lit 1012 :: nat_lit 1013 :: nat_lit 1014 :: nat_lit 1015 :: nat_lit 1017 :: nat_lit 1018 :: nat_lit 1020 :: nat_lit 1021 :: nat_lit 1022 :: nat_lit 1024 :: nat_lit 1025 :: nat_lit 1027 :: nat_lit 1028 :: nat_lit 1029 :: nat_lit 1031 :: nat_lit 1032 :: nat_lit 1034 :: nat_lit 1035 :: nat_lit 1036 :: nat_lit 1038 :: nat_lit 1039 :: nat_lit 1041 :: nat_lit 1042 :: nat_lit 1043 :: nat_lit 1045 :: nat_lit 1046 :: nat_lit 1048 :: nat_lit 1049 :: nat_lit 1050 :: nat_lit 1052 :: nat_lit 1053 :: nat_lit 1055 :: nat_lit 1056 :: nat_lit 1057 :: nat_lit 1059 :: nat_lit 1060 :: nat_lit 1062 :: nat_lit 1063 :: nat_lit 1064 :: nat_lit 1066 :: nat_lit 1067 :: nat_lit 1069 :: nat_lit 1070 :: nat_lit 1071 :: nat_lit 1073 :: nat_lit 1074 :: nat_lit 1076 :: nat_lit 1077 :: nat_lit 1078 :: nat_lit 1080 :: nat_lit 1081 :: nat_lit 1083 :: nat_lit 1084 :: nat_lit 1085 :: nat_lit 1088 :: nat_lit 1089 :: nat_lit 1090 :: nat_lit 1093 :: nat_lit 1094 :: nat_lit 1095 :: nat_lit 1097 :: nat_lit 1098 :: nat_lit 1100 :: nat_lit 1101 :: nat_lit 1102 :: nat_lit 1104 :: nat_lit 1105 :: nat_lit 1107 :: nat_lit 1108 :: nat_lit 1109 :: nat_lit 1111 :: nat_lit 1112 :: nat_lit 1114 :: nat_lit 1115 :: nat_lit 1116 :: nat_lit 1118 :: nat_lit 1119 :: nat_lit 1121 :: nat_lit 1122 :: nat_lit 1123 :: nat_lit 1126 :: nat_lit 1127 :: []
noncomputable def hEnd (P : Params) : Heap := ⟨(objsEnd P).toArray, (boot_heap P).life⟩
noncomputable def shEnd (w : World) (os : OsState) : Shared := ⟨hEnd w.params, #[], boot_drawn, 4092, os⟩
noncomputable def modsL : List Str := importedModules pwF.main.body
noncomputable def lookA (w : World) (os : OsState) : Bool := staticsOk modsL (boot_heap w.params) (hEnd w.params) && namesBound pwF (hEnd w.params) && gensDone (shEnd w os) && laidKept (boot_heap w.params) (hEnd w.params)
noncomputable def lookAr (_ : World) (_ : OsState) : Bool := true
noncomputable def lookB (w : World) (os : OsState) := openSeen qv looseL modsL XtF true (shEnd w os)
noncomputable def lookBr (_ : World) (_ : OsState) := openGood qv looseL
noncomputable def lookC (w : World) (_ : OsState) : List (Option Obj) := as0.map fun a => ((treeOf (objsEnd w.params)).get a).bind alive
noncomputable def lookCr (w : World) (_ : OsState) : List (Option Obj) := (K0c w.params).map fun p => some p.2
noncomputable def lookD (w : World) (_ : OsState) : List Obj := (treeOf (objsEnd w.params)).list 1128
noncomputable def lookDr (w : World) (_ : OsState) : List Obj := objsEnd w.params
noncomputable def lookE (w : World) (_ : OsState) : List Obj := (treeOf (boot_heap w.params).objs.toList).list 11
noncomputable def lookEr (w : World) (_ : OsState) : List Obj := (boot_heap w.params).objs.toList
theorem twinsA : (fun (_ _ : World → OsState → _) => true) lookA lookAr = true := by k_qdec
theorem twinsB : (fun (_ _ : World → OsState → _) => true) lookB lookBr = true := by k_qdec
theorem twinsC : (fun (_ _ : World → OsState → _) => true) lookC lookCr = true := by k_qdec
theorem twinsD : (fun (_ _ : World → OsState → _) => true) lookD lookDr = true := by k_qdec
theorem twinsE : (fun (_ _ : World → OsState → _) => true) lookE lookEr = true := by k_qdec
end Mine
end
end
section
open PySem PySem.W PyProof.Rows
namespace Mine
theorem go0 (w : World) (os : OsState) : PySem.W.Fast.tw11604694543938122397 w os = PySem.W.Fast.tw1337306543613403277 w os := by kernel_rfl
theorem go1437 (w : World) (os : OsState) : PySem.W.Fast.tw3911580085059801254 w os = PySem.W.Fast.tw16562497565960764027 w os := by kernel_rfl
theorem go4999 (w : World) (os : OsState) : PySem.W.Fast.tw17388280168693434319 w os = PySem.W.Fast.tw3656609532077145817 w os := by kernel_rfl
theorem go8317 (w : World) (os : OsState) : PySem.W.Fast.tw2393810429220782332 w os = PySem.W.Fast.tw11081564598131585648 w os := by kernel_rfl
theorem go12185 (w : World) (os : OsState) : PySem.W.Fast.tw1504926205571878410 w os = PySem.W.Fast.tw10646510385069075268 w os := by kernel_rfl
theorem go16309 (w : World) (os : OsState) : PySem.W.Fast.tw9111363514899080370 w os = PySem.W.Fast.tw1989990380818215802 w os := by kernel_rfl
theorem go20689 (w : World) (os : OsState) : PySem.W.Fast.tw16732206504238982126 w os = PySem.W.Fast.tw576171783920943346 w os := by kernel_rfl
theorem go24701 (w : World) (os : OsState) : PySem.W.Fast.tw14767645570352886670 w os = PySem.W.Fast.tw2644298430071986278 w os := by kernel_rfl
theorem go26698 (w : World) (os : OsState) : PySem.W.Fast.tw7457621243408872266 w os = PySem.W.Fast.tw12533891000486048782 w os := by kernel_rfl
theorem go29874 (w : World) (os : OsState) : PySem.W.Fast.tw14098378996844303106 w os = PySem.W.Fast.tw4054968975849041609 w os := by kernel_rfl
theorem go33433 (w : World) (os : OsState) : PySem.W.Fast.tw2253075938282572673 w os = PySem.W.Fast.tw7073754769315382240 w os := by kernel_rfl
theorem go37304 (w : World) (os : OsState) : PySem.W.Fast.tw5960200710516345811 w os = PySem.W.Fast.tw17365667661460802043 w os := by kernel_rfl
theorem go41443 (w : World) (os : OsState) : PySem.W.Fast.tw6045496045467632672 w os = PySem.W.Fast.tw17180741385583741466 w os := by kernel_rfl
theorem go44458 (w : World) (os : OsState) : PySem.W.Fast.tw2912945567224159551 w os = PySem.W.Fast.tw5989428987998194333 w os := by kernel_rfl
theorem go47883 (w : World) (os : OsState) : PySem.W.Fast.tw4665890402706095365 w os = PySem.W.Fast.tw12302827525113644480 w os := by kernel_rfl
theorem seenA (w : World) (os : OsState) : PySem.W.Fast.tw625576771381732293 w os = Mine.lookAr w os := by kernel_rfl
theorem seenB (w : World) (os : OsState) : PySem.W.Fast.tw17053710931461927666 w os = PySem.W.Fast.tw17734345436924879987 w os := by kernel_rfl
theorem seenC (w : World) (os : OsState) : PySem.W.Fast.tw9049313966762249855 w os = PySem.W.Fast.tw8977598204109611408 w os := by kernel_rfl
theorem seenD (w : World) (os : OsState) : PySem.W.Fast.tw8632120192614714895 w os = PySem.W.Fast.tw15717395808191025896 w os := by kernel_rfl
theorem seenE (w : World) (os : OsState) : PySem.W.Fast.tw8586904400064028294 w os = Mine.lookEr w os := by kernel_rfl
end Mine
end
section
open PySem PySem.W PyProof.Rows
noncomputable section
namespace Mine
theorem eq0 (w : World) (os : OsState) : lhs0 w os = rhs0 w os := (congrFun (congrFun PySem.W.Fast.te11604694543938122397 w) os).trans ((go0 w os).trans (congrFun (congrFun PySem.W.Fast.te1337306543613403277 w) os).symm)
theorem eq1437 (w : World) (os : OsState) : lhs1437 w os = rhs1437 w os := (congrFun (congrFun PySem.W.Fast.te3911580085059801254 w) os).trans ((go1437 w os).trans (congrFun (congrFun PySem.W.Fast.te16562497565960764027 w) os).symm)
theorem eq4999 (w : World) (os : OsState) : lhs4999 w os = rhs4999 w os := (congrFun (congrFun PySem.W.Fast.te17388280168693434319 w) os).trans ((go4999 w os).trans (congrFun (congrFun PySem.W.Fast.te3656609532077145817 w) os).symm)
theorem eq8317 (w : World) (os : OsState) : lhs8317 w os = rhs8317 w os := (congrFun (congrFun PySem.W.Fast.te2393810429220782332 w) os).trans ((go8317 w os).trans (congrFun (congrFun PySem.W.Fast.te11081564598131585648 w) os).symm)
theorem eq12185 (w : World) (os : OsState) : lhs12185 w os = rhs12185 w os := (congrFun (congrFun PySem.W.Fast.te1504926205571878410 w) os).trans ((go12185 w os).trans (congrFun (congrFun PySem.W.Fast.te10646510385069075268 w) os).symm)
theorem eq16309 (w : World) (os : OsState) : lhs16309 w os = rhs16309 w os := (congrFun (congrFun PySem.W.Fast.te9111363514899080370 w) os).trans ((go16309 w os).trans (congrFun (congrFun PySem.W.Fast.te1989990380818215802 w) os).symm)
theorem eq20689 (w : World) (os : OsState) : lhs20689 w os = rhs20689 w os := (congrFun (congrFun PySem.W.Fast.te16732206504238982126 w) os).trans ((go20689 w os).trans (congrFun (congrFun PySem.W.Fast.te576171783920943346 w) os).symm)
theorem eq24701 (w : World) (os : OsState) : lhs24701 w os = rhs24701 w os := (congrFun (congrFun PySem.W.Fast.te14767645570352886670 w) os).trans ((go24701 w os).trans (congrFun (congrFun PySem.W.Fast.te2644298430071986278 w) os).symm)
theorem eq26698 (w : World) (os : OsState) : lhs26698 w os = rhs26698 w os := (congrFun (congrFun PySem.W.Fast.te7457621243408872266 w) os).trans ((go26698 w os).trans (congrFun (congrFun PySem.W.Fast.te12533891000486048782 w) os).symm)
theorem eq29874 (w : World) (os : OsState) : lhs29874 w os = rhs29874 w os := (congrFun (congrFun PySem.W.Fast.te14098378996844303106 w) os).trans ((go29874 w os).trans (congrFun (congrFun PySem.W.Fast.te4054968975849041609 w) os).symm)
theorem eq33433 (w : World) (os : OsState) : lhs33433 w os = rhs33433 w os := (congrFun (congrFun PySem.W.Fast.te2253075938282572673 w) os).trans ((go33433 w os).trans (congrFun (congrFun PySem.W.Fast.te7073754769315382240 w) os).symm)
theorem eq37304 (w : World) (os : OsState) : lhs37304 w os = rhs37304 w os := (congrFun (congrFun PySem.W.Fast.te5960200710516345811 w) os).trans ((go37304 w os).trans (congrFun (congrFun PySem.W.Fast.te17365667661460802043 w) os).symm)
theorem eq41443 (w : World) (os : OsState) : lhs41443 w os = rhs41443 w os := (congrFun (congrFun PySem.W.Fast.te6045496045467632672 w) os).trans ((go41443 w os).trans (congrFun (congrFun PySem.W.Fast.te17180741385583741466 w) os).symm)
theorem eq44458 (w : World) (os : OsState) : lhs44458 w os = rhs44458 w os := (congrFun (congrFun PySem.W.Fast.te2912945567224159551 w) os).trans ((go44458 w os).trans (congrFun (congrFun PySem.W.Fast.te5989428987998194333 w) os).symm)
theorem eq47883 (w : World) (os : OsState) : lhs47883 w os = rhs47883 w os := (congrFun (congrFun PySem.W.Fast.te4665890402706095365 w) os).trans ((go47883 w os).trans (congrFun (congrFun PySem.W.Fast.te12302827525113644480 w) os).symm)
theorem lookA_is (w : World) (os : OsState) : lookA w os = lookAr w os := (congrFun (congrFun PySem.W.Fast.te625576771381732293 w) os).trans ((seenA w os).trans (congrFun (congrFun (rfl : @Mine.lookAr = Mine.lookAr) w) os).symm)
theorem lookB_is (w : World) (os : OsState) : lookB w os = lookBr w os := (congrFun (congrFun PySem.W.Fast.te17053710931461927666 w) os).trans ((seenB w os).trans (congrFun (congrFun PySem.W.Fast.te17734345436924879987 w) os).symm)
theorem lookC_is (w : World) (os : OsState) : lookC w os = lookCr w os := (congrFun (congrFun PySem.W.Fast.te9049313966762249855 w) os).trans ((seenC w os).trans (congrFun (congrFun PySem.W.Fast.te8977598204109611408 w) os).symm)
theorem lookD_is (w : World) (os : OsState) : lookD w os = lookDr w os := (congrFun (congrFun PySem.W.Fast.te8632120192614714895 w) os).trans ((seenD w os).trans (congrFun (congrFun PySem.W.Fast.te15717395808191025896 w) os).symm)
theorem lookE_is (w : World) (os : OsState) : lookE w os = lookEr w os := (congrFun (congrFun PySem.W.Fast.te8586904400064028294 w) os).trans ((seenE w os).trans (congrFun (congrFun (rfl : @Mine.lookEr = Mine.lookEr) w) os).symm)
theorem reach0 (w : World) (os : OsState) : Reach w (boundP segs0 last0 1437) (s0 w os) (t0 w os) (s1437 w os) (t1437 w os) := piece_reach (x := run0 w os) rfl (eq0 w os)
theorem reach1437 (w : World) (os : OsState) : Reach w (boundP segs1437 last1437 300) (s1437 w os) (t1437 w os) (s4999 w os) (t4999 w os) := piece_reach (x := run1437 w os) rfl (eq1437 w os)
theorem reach4999 (w : World) (os : OsState) : Reach w (boundP segs4999 last4999 300) (s4999 w os) (t4999 w os) (s8317 w os) (t8317 w os) := piece_reach (x := run4999 w os) rfl (eq4999 w os)
theorem reach8317 (w : World) (os : OsState) : Reach w (boundP segs8317 last8317 300) (s8317 w os) (t8317 w os) (s12185 w os) (t12185 w os) := piece_reach (x := run8317 w os) rfl (eq8317 w os)
theorem reach12185 (w : World) (os : OsState) : Reach w (boundP segs12185 last12185 300) (s12185 w os) (t12185 w os) (s16309 w os) (t16309 w os) := piece_reach (x := run12185 w os) rfl (eq12185 w os)
theorem reach16309 (w : World) (os : OsState) : Reach w (boundP segs16309 last16309 300) (s16309 w os) (t16309 w os) (s20689 w os) (t20689 w os) := piece_reach (x := run16309 w os) rfl (eq16309 w os)
theorem reach20689 (w : World) (os : OsState) : Reach w (boundP segs20689 last20689 300) (s20689 w os) (t20689 w os) (s24701 w os) (t24701 w os) := piece_reach (x := run20689 w os) rfl (eq20689 w os)
theorem reach24701 (w : World) (os : OsState) : Reach w (boundP segs24701 last24701 350) (s24701 w os) (t24701 w os) (s26698 w os) (t26698 w os) := piece_reach (x := run24701 w os) rfl (eq24701 w os)
theorem reach26698 (w : World) (os : OsState) : Reach w (boundP segs26698 last26698 42) (s26698 w os) (t26698 w os) (s29874 w os) (t29874 w os) := piece_reach (x := run26698 w os) rfl (eq26698 w os)
theorem reach29874 (w : World) (os : OsState) : Reach w (boundP segs29874 last29874 35) (s29874 w os) (t29874 w os) (s33433 w os) (t33433 w os) := piece_reach (x := run29874 w os) rfl (eq29874 w os)
theorem reach33433 (w : World) (os : OsState) : Reach w (boundP segs33433 last33433 10) (s33433 w os) (t33433 w os) (s37304 w os) (t37304 w os) := piece_reach (x := run33433 w os) rfl (eq33433 w os)
theorem reach37304 (w : World) (os : OsState) : Reach w (boundP segs37304 last37304 35) (s37304 w os) (t37304 w os) (s41443 w os) (t41443 w os) := piece_reach (x := run37304 w os) rfl (eq37304 w os)
theorem reach41443 (w : World) (os : OsState) : Reach w (boundP segs41443 last41443 10) (s41443 w os) (t41443 w os) (s44458 w os) (t44458 w os) := piece_reach (x := run41443 w os) rfl (eq41443 w os)
theorem reach44458 (w : World) (os : OsState) : Reach w (boundP segs44458 last44458 35) (s44458 w os) (t44458 w os) (s47883 w os) (t47883 w os) := piece_reach (x := run44458 w os) rfl (eq44458 w os)
theorem reach47883 (w : World) (os : OsState) : ∃ n, n ≤ boundP segs47883 last47883 536 ∧ topRun treeTable pwF w 11 (some (.ref 6)) (n + 60) (s47883 w os).abs (t47883 w os) = some (sEnd w os).abs := piece_end (x := run47883 w os) rfl (eq47883 w os)
theorem sEnd_abs (w : World) (os : OsState) : (sEnd w os).abs = ⟨hEnd w.params, Array.mk [], boot_drawn, 4092, os⟩ := abs_of (lookD_is w os)
theorem s0_abs (w : World) (os : OsState) : (s0 w os).abs = ⟨⟨(boot_heap w.params).objs.toList.toArray, (boot_heap w.params).life⟩, Array.mk [], boot_drawn, boot_toks, os⟩ := abs_of (lookE_is w os)
theorem whole_run (w : World) (os : OsState) : topRun treeTable pwF w 11 (some (.ref 6)) 52000 ⟨boot_heap w.params, Array.mk [], boot_drawn, boot_toks, os⟩ (topStub pwF) = some ⟨hEnd w.params, Array.mk [], boot_drawn, 4092, os⟩ := by
  obtain ⟨n, hn, h⟩ := reach47883 w os
  obtain ⟨m, hm, f⟩ := ((((((((((((((reach0 w os).trans (reach1437 w os)).trans (reach4999 w os)).trans (reach8317 w os)).trans (reach12185 w os)).trans (reach16309 w os)).trans (reach20689 w os)).trans (reach24701 w os)).trans (reach26698 w os)).trans (reach29874 w os)).trans (reach33433 w os)).trans (reach37304 w os)).trans (reach41443 w os)).trans (reach44458 w os))
  have z := f _ _ h
  rw [sEnd_abs, s0_abs] at z
  have hb : boundP segs0 last0 1437+boundP segs1437 last1437 300+boundP segs4999 last4999 300+boundP segs8317 last8317 300+boundP segs12185 last12185 300+boundP segs16309 last16309 300+boundP segs20689 last20689 300+boundP segs24701 last24701 350+boundP segs26698 last26698 42+boundP segs29874 last29874 35+boundP segs33433 last33433 10+boundP segs37304 last37304 35+boundP segs41443 last41443 10+boundP segs44458 last44458 35+boundP segs47883 last47883 536 + 60 ≤ 52000 := by decide +kernel
  have q := topRun_mono (52000 - (m + (n + 60))) _ _ _ _ z
  rw [show m + (n + 60) + (52000 - (m + (n + 60))) = 52000 by omega] at q
  exact q
noncomputable def kH : Hook := kHook K0 as0 (fun _ => by kernel_rfl)
theorem left_open : ∀ w : World, (fencedOpening treeTable pwF w 103752).map (fun s => (s.heap, s.gens, s.drawn, s.toks)) = some (boot_heap w.params, Array.mk [], boot_drawn, boot_toks) := boot_open (p := pwF) (N := 103752) (by kernel_rfl) (by decide +kernel) (fun s => by kernel_rfl)
theorem left_size : ∀ w : World, ((boot_heap w.params).isNs mainGlobals && (Array.mk [] : Array GenState).size == 0, (boot_heap w.params).objs.size, (boot_heap w.params).nsMap mainGlobals "__annotations__") = (true, 11, some (.ref 6)) := fun w => by kernel_rfl
theorem left_le : Nat.ble 52000 103752 = true := by decide +kernel
theorem left_a (w : World) (os : OsState) : (staticsOk (importedModules pwF.main.body) (boot_heap w.params) (hEnd w.params) && namesBound pwF (hEnd w.params) && gensDone ⟨hEnd w.params, Array.mk [], boot_drawn, 4092, os⟩ && laidKept (boot_heap w.params) (hEnd w.params)) = true := lookA_is w os
theorem left_b (w : World) (os : OsState) : openSeen qv looseL (importedModules pwF.main.body) XtF true ⟨hEnd w.params, Array.mk [], boot_drawn, 4092, os⟩ = openGood qv looseL := lookB_is w os
theorem lookCr_val (w : World) (os : OsState) : lookCr w os = Hook.val kH w := by
  unfold lookCr
  rw [K0c_eq]
  rfl
theorem as0_lt : ∀ a ∈ as0, a < 1128 := by decide +kernel
theorem hEnd_get (w : World) (os : OsState) : as0.map (hEnd w.params).get? = lookCr w os := by
  have e := lookC_is w os
  have hd : hEnd w.params = absHeap (treeOf (objsEnd w.params)) 1128 (boot_heap w.params).life := by
    unfold hEnd absHeap
    rw [show (treeOf (objsEnd w.params)).list 1128 = objsEnd w.params from lookD_is w os]
  rw [← e]
  refine List.map_congr_left fun a ha => ?_
  have hs : ((treeOf (objsEnd w.params)).get a).bind alive ∈ lookCr w os := e ▸ List.mem_map_of_mem ha
  obtain ⟨p, _, hp⟩ := List.mem_map.mp hs
  cases hg : (treeOf (objsEnd w.params)).get a with
  | none => rw [hg] at hp; cases hp
  | some o => rw [hd, abs_get (as0_lt a ha) hg]; rfl
theorem left_c (w : World) (os : OsState) : Hook.obs kH ⟨hEnd w.params, Array.mk [], boot_drawn, 4092, os⟩ = Hook.val kH w := (hEnd_get w os).trans (lookCr_val w os)
theorem left_looks (w : World) : (fun os => ((staticsOk (importedModules pwF.main.body) (boot_heap w.params) (hEnd w.params) && namesBound pwF (hEnd w.params) && gensDone ⟨hEnd w.params, Array.mk [], boot_drawn, 4092, os⟩ && laidKept (boot_heap w.params) (hEnd w.params)),
        openSeen qv looseL (importedModules pwF.main.body) XtF true ⟨hEnd w.params, Array.mk [], boot_drawn, 4092, os⟩, Hook.obs kH ⟨hEnd w.params, Array.mk [], boot_drawn, 4092, os⟩)) = fun _ => (true, openGood qv looseL, Hook.val kH w) :=
  funext fun os => by rw [left_a w os, left_b w os, left_c w os]
theorem leftF : LeftO pwF qv looseL XtF (Hook.obs kH) (Hook.val kH) 103752 :=
  @LeftO.of_pieces pwF qv looseL XtF _ (Hook.obs kH) (Hook.val kH) 103752 true boot_heap hEnd (Array.mk []) (Array.mk []) boot_drawn boot_drawn boot_toks 4092 11 (some (.ref 6)) 52000 left_open left_size whole_run left_le left_looks
theorem rr_rec : RowW.records rr = [] := by kernel_rfl
theorem left : LeftO pw qv looseL Xt0 (Hook.obs kH) (Hook.val kH) 103752 := by
  have h := leftF
  unfold XtF at h
  rw [pwF_eq] at h
  unfold Xt0
  rw [rr_rec]
  exact h
end Mine
end
end
section
open PySem PySem.W PyProof.Rows
namespace Mine
theorem fo21 (P : Params) : (K0 P).lookup 21 = some ⟨.type "function", none, .func (fnOf "_wall" "_wall" psF0 bdF0 scF0 (.none) (.none) (.none) (.str "__main__" 164) (none) (.ref 20) (.none)), #[]⟩ := by kernel_rfl
theorem co21 (P : Params) : codeIn (K0 P) (.ref 20) "_wall" = true := by kernel_rfl
theorem fo36 (P : Params) : (K0 P).lookup 36 = some ⟨.type "function", none, .func (fnOf "__init__" "BoardError.__init__" psM2M0 bdM2M0 scM2M0 (.ref 29) (.none) (.none) (.str "pipeboard.errors" 194) (none) (.ref 35) (.none)), #[]⟩ := by kernel_rfl
theorem co36 (P : Params) : codeIn (K0 P) (.ref 35) "BoardError.__init__" = true := by kernel_rfl
theorem fo68 (P : Params) : (K0 P).lookup 68 = some ⟨.type "function", none, .func (fnOf "__init__" "BadInstruction.__init__" psM4M0 bdM4M0 scM4M0 (.none) (.none) (.none) (.str "pipeboard.errors" 194) (none) (.ref 67) (.none)), #[]⟩ := by kernel_rfl
theorem co68 (P : Params) : codeIn (K0 P) (.ref 67) "BadInstruction.__init__" = true := by kernel_rfl
theorem fo88 (P : Params) : (K0 P).lookup 88 = some ⟨.type "function", none, .func (fnOf "__init__" "Instruction.__init__" psM17M0 bdM17M0 scM17M0 (.ref 81) (.none) (.none) (.str "pipeboard.isa" 265) (none) (.ref 87) (.none)), #[]⟩ := by kernel_rfl
theorem co88 (P : Params) : codeIn (K0 P) (.ref 87) "Instruction.__init__" = true := by kernel_rfl
theorem fo95 (P : Params) : (K0 P).lookup 95 = some ⟨.type "function", none, .func (fnOf "fields" "Instruction.fields" psM17M1 bdM17M1 scM17M1 (.none) (.none) (.none) (.str "pipeboard.isa" 265) (none) (.ref 94) (.none)), #[]⟩ := by kernel_rfl
theorem co95 (P : Params) : codeIn (K0 P) (.ref 94) "Instruction.fields" = true := by kernel_rfl
theorem fo117 (P : Params) : (K0 P).lookup 117 = some ⟨.type "function", none, .func (fnOf "__init__" "Shape.__init__" psM18M0 bdM18M0 scM18M0 (.ref 110) (.none) (.none) (.str "pipeboard.isa" 265) (none) (.ref 116) (.none)), #[]⟩ := by kernel_rfl
theorem co117 (P : Params) : codeIn (K0 P) (.ref 116) "Shape.__init__" = true := by kernel_rfl
theorem fo124 (P : Params) : (K0 P).lookup 124 = some ⟨.type "function", none, .func (fnOf "fixed" "Shape.fixed" psM18M1 bdM18M1 scM18M1 (.none) (.none) (.none) (.str "pipeboard.isa" 265) (none) (.ref 123) (.none)), #[]⟩ := by kernel_rfl
theorem co124 (P : Params) : codeIn (K0 P) (.ref 123) "Shape.fixed" = true := by kernel_rfl
theorem fo1021 (P : Params) : (K0 P).lookup 1021 = some ⟨.type "function", none, .func (fnOf "shape_of" "shape_of" psF24 bdF24 scF24 (.none) (.none) (.none) (.str "pipeboard.isa" 265) (none) (.ref 1020) (.none)), #[]⟩ := by kernel_rfl
theorem co1021 (P : Params) : codeIn (K0 P) (.ref 1020) "shape_of" = true := by kernel_rfl
theorem fo1028 (P : Params) : (K0 P).lookup 1028 = some ⟨.type "function", none, .func (fnOf "check" "check" psF25 bdF25 scF25 (.none) (.none) (.none) (.str "pipeboard.isa" 265) (none) (.ref 1027) (.none)), #[]⟩ := by kernel_rfl
theorem co1028 (P : Params) : codeIn (K0 P) (.ref 1027) "check" = true := by kernel_rfl
theorem fo1035 (P : Params) : (K0 P).lookup 1035 = some ⟨.type "function", none, .func (fnOf "spread_branch" "spread_branch" psF26 bdF26 scF26 (.none) (.none) (.none) (.str "pipeboard.isa" 265) (none) (.ref 1034) (.none)), #[]⟩ := by kernel_rfl
theorem co1035 (P : Params) : codeIn (K0 P) (.ref 1034) "spread_branch" = true := by kernel_rfl
theorem fo1042 (P : Params) : (K0 P).lookup 1042 = some ⟨.type "function", none, .func (fnOf "spread_jump" "spread_jump" psF27 bdF27 scF27 (.none) (.none) (.none) (.str "pipeboard.isa" 265) (none) (.ref 1041) (.none)), #[]⟩ := by kernel_rfl
theorem co1042 (P : Params) : codeIn (K0 P) (.ref 1041) "spread_jump" = true := by kernel_rfl
theorem fo1049 (P : Params) : (K0 P).lookup 1049 = some ⟨.type "function", none, .func (fnOf "encode" "encode" psF28 bdF28 scF28 (.none) (.none) (.none) (.str "pipeboard.isa" 265) (none) (.ref 1048) (.none)), #[]⟩ := by kernel_rfl
theorem co1049 (P : Params) : codeIn (K0 P) (.ref 1048) "encode" = true := by kernel_rfl
theorem fo1056 (P : Params) : (K0 P).lookup 1056 = some ⟨.type "function", none, .func (fnOf "gathered_branch" "gathered_branch" psF29 bdF29 scF29 (.none) (.none) (.none) (.str "pipeboard.isa" 265) (none) (.ref 1055) (.none)), #[]⟩ := by kernel_rfl
theorem co1056 (P : Params) : codeIn (K0 P) (.ref 1055) "gathered_branch" = true := by kernel_rfl
theorem fo1063 (P : Params) : (K0 P).lookup 1063 = some ⟨.type "function", none, .func (fnOf "gathered_jump" "gathered_jump" psF30 bdF30 scF30 (.none) (.none) (.none) (.str "pipeboard.isa" 265) (none) (.ref 1062) (.none)), #[]⟩ := by kernel_rfl
theorem co1063 (P : Params) : codeIn (K0 P) (.ref 1062) "gathered_jump" = true := by kernel_rfl
theorem fo1070 (P : Params) : (K0 P).lookup 1070 = some ⟨.type "function", none, .func (fnOf "find_shape" "find_shape" psF31 bdF31 scF31 (.none) (.none) (.none) (.str "pipeboard.isa" 265) (none) (.ref 1069) (.none)), #[]⟩ := by kernel_rfl
theorem co1070 (P : Params) : codeIn (K0 P) (.ref 1069) "find_shape" = true := by kernel_rfl
theorem fo1077 (P : Params) : (K0 P).lookup 1077 = some ⟨.type "function", none, .func (fnOf "decode" "decode" psF32 bdF32 scF32 (.none) (.none) (.none) (.str "pipeboard.isa" 265) (none) (.ref 1076) (.none)), #[]⟩ := by kernel_rfl
theorem co1077 (P : Params) : codeIn (K0 P) (.ref 1076) "decode" = true := by kernel_rfl
theorem fo1084 (P : Params) : (K0 P).lookup 1084 = some ⟨.type "function", none, .func (fnOf "_law_take" "_law_take" psF34 bdF34 scF34 (.none) (.none) (.none) (.str "law_pf0216_01" 4018) (none) (.ref 1083) (.none)), #[]⟩ := by kernel_rfl
theorem co1084 (P : Params) : codeIn (K0 P) (.ref 1083) "_law_take" = true := by kernel_rfl
theorem fo1089 (P : Params) : (K0 P).lookup 1089 = some ⟨.type "function", none, .func (fnOf "_law_thirds" "_law_thirds" psF35 bdF35 scF35 (.none) (.none) (.none) (.str "law_pf0216_01" 4018) (none) (.ref 1088) (.none)), #[]⟩ := by kernel_rfl
theorem co1089 (P : Params) : codeIn (K0 P) (.ref 1088) "_law_thirds" = true := by kernel_rfl
theorem fo1094 (P : Params) : (K0 P).lookup 1094 = some ⟨.type "function", none, .func (fnOf "_law_rows" "_law_rows" psF36 bdF36 scF36 (.none) (.none) (.none) (.str "law_pf0216_01" 4018) (none) (.ref 1093) (.none)), #[]⟩ := by kernel_rfl
theorem co1094 (P : Params) : codeIn (K0 P) (.ref 1093) "_law_rows" = true := by kernel_rfl
theorem fo1101 (P : Params) : (K0 P).lookup 1101 = some ⟨.type "function", none, .func (fnOf "_law_by_high" "_law_by_high" psF37 bdF37 scF37 (.none) (.none) (.none) (.str "law_pf0216_01" 4018) (none) (.ref 1100) (.none)), #[]⟩ := by kernel_rfl
theorem co1101 (P : Params) : codeIn (K0 P) (.ref 1100) "_law_by_high" = true := by kernel_rfl
theorem fo1108 (P : Params) : (K0 P).lookup 1108 = some ⟨.type "function", none, .func (fnOf "_law_name_of" "_law_name_of" psF38 bdF38 scF38 (.none) (.none) (.none) (.str "law_pf0216_01" 4018) (none) (.ref 1107) (.none)), #[]⟩ := by kernel_rfl
theorem co1108 (P : Params) : codeIn (K0 P) (.ref 1107) "_law_name_of" = true := by kernel_rfl
theorem fo1115 (P : Params) : (K0 P).lookup 1115 = some ⟨.type "function", none, .func (fnOf "_law_word_right" "_law_word_right" psF39 bdF39 scF39 (.none) (.none) (.none) (.str "law_pf0216_01" 4018) (none) (.ref 1114) (.none)), #[]⟩ := by kernel_rfl
theorem co1115 (P : Params) : codeIn (K0 P) (.ref 1114) "_law_word_right" = true := by kernel_rfl
theorem fo1122 (P : Params) : (K0 P).lookup 1122 = some ⟨.type "function", none, .func (fnOf "_law_many" "_law_many" psF40 bdF40 scF40 (.none) (.none) (.none) (.str "law_pf0216_01" 4018) (none) (.ref 1121) (.none)), #[]⟩ := by kernel_rfl
theorem co1122 (P : Params) : codeIn (K0 P) (.ref 1121) "_law_many" = true := by kernel_rfl
theorem fo1127 (P : Params) : (K0 P).lookup 1127 = some ⟨.type "function", none, .func (fnOf "law" "law" psF41 bdF41 scF41 (.none) (.none) (.none) (.str "law_pf0216_01" 4018) (none) (.ref 1126) (.none)), #[]⟩ := by kernel_rfl
theorem co1127 (P : Params) : codeIn (K0 P) (.ref 1126) "law" = true := by kernel_rfl
noncomputable def PV (prog : Program) (w : World) (A : Around) (env : Env) (h : Heap) (e : Expr) (P : Value → Prop) : Prop :=
  ∀ (s : Shared) (Q E : Value → Shared → Prop), s.heap = h → (∀ v tk, P v → Q v { s with toks := tk }) → wpAny (model prog w) A (eval e env) Q E s
noncomputable abbrev IsI (i : Int) : Value → Prop := fun v => ∃ t, v = .int i t
theorem isI (i : Int) (t : Tok) : IsI i (.int i t) := ⟨t, rfl⟩
section
variable {prog : Program} {w : World} {A : Around} {env : Env} {h : Heap}
theorem PV.use {e : Expr} {P : Value → Prop} {s : Shared} {Q E : Value → Shared → Prop} (x : PV prog w A env s.heap e P) (q : ∀ v tk, P v → Q v { s with toks := tk }) : wpAny (model prog w) A (eval e env) Q E s := x s Q E rfl q
theorem PV.mono {e : Expr} {P R : Value → Prop} (x : PV prog w A env h e P) (f : ∀ v, P v → R v) : PV prog w A env h e R := fun s Q E hs q => x s Q E hs fun v tk p => q v tk (f v p)
theorem PV.const (i : Int) (k : Nat) (pos : Pos) : PV prog w A env h (.Constant (.int i) k pos) (IsI i) := fun s Q E hs q => wpAny_Constant_int (q _ _ (isI _ _))
theorem PV.bin {l r : Expr} {op : Operator} {pos : Pos} {a b c : Int} (x : PV prog w A env h l (IsI a)) (y : PV prog w A env h r (IsI b))
    (f : ∀ (s : Shared) (t u : Tok) (Q E : Value → Shared → Prop), (∀ tk t, Q (.int c t) { s with toks := tk }) → wpAny (model prog w) A (binaryOp op (.int a t) (.int b u)) Q E s) : PV prog w A env h (.BinOp l op r pos) (IsI c) := by
  intro s Q E hs q
  refine wpAny_BinOp (x s _ _ hs fun v tk hv => ?_)
  obtain ⟨t, rfl⟩ := hv
  refine y _ _ _ hs fun v tk' hv => ?_
  obtain ⟨u, rfl⟩ := hv
  exact f _ t u _ _ fun tk'' t' => q _ _ (isI _ _)
theorem PV.and_ {l r : Expr} {pos : Pos} {a b : Int} (x : PV prog w A env h l (IsI a)) (y : PV prog w A env h r (IsI b)) : PV prog w A env h (.BinOp l .BitAnd r pos) (IsI (Builtin.bitAnd a b)) := .bin x y fun s t u Q E q => and_int (q _ _)
theorem PV.or_ {l r : Expr} {pos : Pos} {a b : Int} (x : PV prog w A env h l (IsI a)) (y : PV prog w A env h r (IsI b)) : PV prog w A env h (.BinOp l .BitOr r pos) (IsI (Builtin.bitOr a b)) := .bin x y fun s t u Q E q => or_int (q _ _)
theorem PV.add {l r : Expr} {pos : Pos} {a b : Int} (x : PV prog w A env h l (IsI a)) (y : PV prog w A env h r (IsI b)) : PV prog w A env h (.BinOp l .Add r pos) (IsI (a + b)) := .bin x y fun s t u Q E q => add_int (q _ _)
theorem PV.sub {l r : Expr} {pos : Pos} {a b : Int} (x : PV prog w A env h l (IsI a)) (y : PV prog w A env h r (IsI b)) : PV prog w A env h (.BinOp l .Sub r pos) (IsI (a - b)) := .bin x y fun s t u Q E q => sub_int (q _ _)
theorem PV.shr {l r : Expr} {pos : Pos} {a : Int} {n : Nat} (x : PV prog w A env h l (IsI a)) (y : PV prog w A env h r (IsI n)) : PV prog w A env h (.BinOp l .RShift r pos) (IsI (a.fdiv (2 ^ n))) :=
  .bin x y fun s t u Q E q => rshift_int (n := (n : Int)) (Int.natCast_nonneg n) (by simpa using q _ _)
theorem PV.shl {l r : Expr} {pos : Pos} {a : Int} {n : Nat} (x : PV prog w A env h l (IsI a)) (y : PV prog w A env h r (IsI n)) (hn : n ≤ 64) (ha : a.natAbs < 2 ^ 64) : PV prog w A env h (.BinOp l .LShift r pos) (IsI (a * 2 ^ n)) :=
  .bin x y fun s t u Q E q => lshift_int_small (n := (n : Int)) (Int.natCast_nonneg n) (by omega) ha (by simpa using q _ _)
theorem PV.shl_and {l r : Expr} {pos : Pos} {a : Int} {k n : Nat} (x : PV prog w A env h l (IsI (Builtin.bitAnd a k))) (y : PV prog w A env h r (IsI n)) (hn : n ≤ 64 := by decide) (ha : k < 2 ^ 64 := by decide) : PV prog w A env h (.BinOp l .LShift r pos) (IsI (Builtin.bitAnd a k * 2 ^ n)) :=
  .shl x y hn (by have := bitAnd_range a (y := (k : Int)) (Int.natCast_nonneg k); omega)
theorem PV.mod {l r : Expr} {pos : Pos} {a b : Int} (x : PV prog w A env h l (IsI a)) (y : PV prog w A env h r (IsI b)) (hb : b ≠ 0) : PV prog w A env h (.BinOp l .Mod r pos) (IsI (a.fmod b)) := .bin x y fun s t u Q E q => mod_int' hb (q _ _)
theorem PV.mul {l r : Expr} {pos : Pos} {a b : Int} (x : PV prog w A env h l (IsI a)) (y : PV prog w A env h r (IsI b)) (hm : IntMulOk a b) : PV prog w A env h (.BinOp l .Mult r pos) (IsI (a * b)) := .bin x y fun s t u Q E q => mul_int (q _ _) hm
theorem PV.div {l r : Expr} {pos : Pos} {a b : Int} (x : PV prog w A env h l (IsI a)) (y : PV prog w A env h r (IsI b)) (hb : b ≠ 0) (hp : Builtin.divisionGoesByPylong a b = false) : PV prog w A env h (.BinOp l .FloorDiv r pos) (IsI (a.fdiv b)) := .bin x y fun s t u Q E q => floordiv_int hb (q _ _) (.inl hp)
theorem PV.name {cn : Str} {cs : Scope} {L a : Addr} {ccd : Value} {cl : List (Str × Addr)} {h₀ : Heap} {m : Str → Option Value} {x : Str} {pos : Pos} {v : Value} {P : Value → Prop} (F : Fr h₀ L h m) (hv : m x = some v) (p : P v)
    (hk : cs.kind = .function := by rfl) (hx : (envX cn cs L a ccd cl).kindOf x = some .local := by rfl) (hd : (x == ("__debug__" : Str)) = false := by decide) : PV prog w A (envX cn cs L a ccd cl) h (.Name x pos) P := fun s Q E hs q => by
  subst hs
  exact nameX_L F hv (q v s.toks p) hk hx hd
end
section
variable {prog : Program} {w : World} {A : Around} {h : Heap}
theorem PV.nameI {cn : Str} {cs : Scope} {L a : Addr} {ccd : Value} {cl : List (Str × Addr)} {h₀ : Heap} {m : Str → Option Value} {x : Str} {pos : Pos} {i : Int} {t : Tok} (F : Fr h₀ L h m) (hv : m x = some (.int i t) := by rfl)
    (hk : cs.kind = .function := by rfl) (hx : (envX cn cs L a ccd cl).kindOf x = some .local := by rfl) (hd : (x == ("__debug__" : Str)) = false := by decide) : PV prog w A (envX cn cs L a ccd cl) h (.Name x pos) (IsI i) := .name F hv (isI i t) hk hx hd
end
section
variable {prog : Program} {w : World} {A : Around} {env : Env} {h : Heap}
noncomputable def TV (prog : Program) (w : World) (A : Around) (env : Env) (h : Heap) (e : Expr) (b : Bool) : Prop :=
  ∀ (s : Shared) (Q : Bool → Shared → Prop) (E : Value → Shared → Prop), s.heap = h → (∀ tk, Q b { s with toks := tk }) → wpAny (model prog w) A (isTrue e env (eval e env)) Q E s
theorem TV.use {e : Expr} {b : Bool} {s : Shared} {Q : Bool → Shared → Prop} {E : Value → Shared → Prop} (x : TV prog w A env s.heap e b) (q : ∀ tk, Q b { s with toks := tk }) : wpAny (model prog w) A (isTrue e env (eval e env)) Q E s := x s Q E rfl q
theorem TV.int {e : Expr} {i : Int} (x : PV prog w A env h e (IsI i)) (he : ∀ whole, isTrue e env whole = (do let v ← whole; standAt e.pos; holding [v] (truthy v)) := by intro _; rfl) : TV prog w A env h e (i != 0) := fun s Q E hs q =>
  isTrue_plain (x s _ _ hs fun v tk hv => by obtain ⟨t, rfl⟩ := hv; exact truthy_int (q tk)) (he _)
theorem TV.bool {e : Expr} {b : Bool} (x : PV prog w A env h e (· = .bool b)) (he : ∀ whole, isTrue e env whole = (do let v ← whole; standAt e.pos; holding [v] (truthy v)) := by intro _; rfl) : TV prog w A env h e b := fun s Q E hs q =>
  isTrue_plain (x s _ _ hs fun v tk hv => by subst hv; exact wpAny_truthy_bool (q tk)) (he _)
theorem TV.cmp {l r : Expr} {op : CmpOp} {pos : Pos} {P R : Value → Prop} {b : Bool} (x : PV prog w A env h l P) (y : PV prog w A env h r R)
    (f : ∀ (s : Shared) (u v : Value) (Q E : Value → Shared → Prop), s.heap = h → P u → R v → (∀ tk, Q (.bool b) { s with toks := tk }) → wpAny (model prog w) A (compareOp op u v) Q E s)
    (hm : behindInMarks op r = false := by with_unfolding_all rfl) : TV prog w A env h (.Compare l [op] [r] pos) b := fun s Q E hs q =>
  wpAny_isTrue_Compare1 (x s _ _ hs fun u tk hu => y _ _ _ hs fun v tk' hv => f _ u v _ _ hs hu hv fun tk'' => wpAny_truthy_bool (q tk'')) hm
theorem TV.eqI {l r : Expr} {pos : Pos} {a b : Int} (x : PV prog w A env h l (IsI a)) (y : PV prog w A env h r (IsI b)) (hm : behindInMarks .Eq r = false := by with_unfolding_all rfl) : TV prog w A env h (.Compare l [.Eq] [r] pos) (a == b) :=
  .cmp x y (fun s u v Q E _ hu hv q => by obtain ⟨t, rfl⟩ := hu; obtain ⟨t', rfl⟩ := hv; exact eq_int (q s.toks)) hm
theorem TV.neI {l r : Expr} {pos : Pos} {a b : Int} (x : PV prog w A env h l (IsI a)) (y : PV prog w A env h r (IsI b)) (hm : behindInMarks .NotEq r = false := by with_unfolding_all rfl) : TV prog w A env h (.Compare l [.NotEq] [r] pos) (a != b) :=
  .cmp x y (fun s u v Q E _ hu hv q => by obtain ⟨t, rfl⟩ := hu; obtain ⟨t', rfl⟩ := hv; exact ne_int (q s.toks)) hm
theorem TV.ltI {l r : Expr} {pos : Pos} {a b : Int} (x : PV prog w A env h l (IsI a)) (y : PV prog w A env h r (IsI b)) (hm : behindInMarks .Lt r = false := by with_unfolding_all rfl) : TV prog w A env h (.Compare l [.Lt] [r] pos) (decide (a < b)) :=
  .cmp x y (fun s u v Q E _ hu hv q => by obtain ⟨t, rfl⟩ := hu; obtain ⟨t', rfl⟩ := hv; exact lt_int (q s.toks)) hm
theorem TV.not_ {e : Expr} {b : Bool} {pos : Pos} (x : TV prog w A env h e b) : TV prog w A env h (.UnaryOp .Not e pos) (!b) := fun s Q E hs q => isTrue_not (x s _ _ hs fun tk => q tk)
theorem tv_and_nil {pos : Pos} {whole : Sem Value} {s : Shared} {Q : Bool → Shared → Prop} {E : Value → Shared → Prop} (q : Q true s) : wpAny (model prog w) A (isTrue (.BoolOp .And [] pos) env whole) Q E s := isTrue_and_nil q
theorem TV.and2 {x y : Expr} {pos : Pos} {a b : Bool} (X : TV prog w A env h x a) (Y : a = true → TV prog w A env h y b) : TV prog w A env h (.BoolOp .And [x, y] pos) (a && b) := fun s Q E hs q => by
  refine isTrue_and (X s _ _ hs fun tk => ?_)
  cases a with
  | false => exact q tk
  | true =>
    refine isTrue_and (Y rfl _ _ _ hs fun tk' => ?_)
    cases b with
    | false => exact q tk'
    | true => exact isTrue_and_nil (q tk')
theorem TV.or2 {x y : Expr} {pos : Pos} {a b : Bool} (X : TV prog w A env h x a) (Y : a = false → TV prog w A env h y b) : TV prog w A env h (.BoolOp .Or [x, y] pos) (a || b) := fun s Q E hs q => by
  refine isTrue_or (X s _ _ hs fun tk => ?_)
  cases a with
  | true => exact q tk
  | false =>
    refine isTrue_or (Y rfl _ _ _ hs fun tk' => ?_)
    cases b with
    | true => exact q tk'
    | false => exact isTrue_or_nil (q tk')
theorem PV.ite {t x y : Expr} {pos : Pos} {b : Bool} {P : Value → Prop} (T : TV prog w A env h t b) (X : b = true → PV prog w A env h x P) (Y : b = false → PV prog w A env h y P) : PV prog w A env h (.IfExp t x y pos) P := fun s Q E hs q => by
  refine wpAny_IfExp (T s _ _ hs fun tk => ?_)
  cases b with
  | true => exact X rfl _ _ _ hs fun v tk' p => q v tk' p
  | false => exact Y rfl _ _ _ hs fun v tk' p => q v tk' p
end
noncomputable abbrev Led := List (Addr × Obj)
structure Sit (w : World) (mean : ExcName → Option Value) (mg mb : Str → Option Value) (A₀ : Around) (base : Heap) (outer : List Env) (g : Heap) (L : Addr) (m : Str → Option Value) (news : Led) (h : Heap) : Prop where
  B : Below A₀ base outer g
  F : Fr g L h m
  X : (K0 w.params).In g
  N : News g L h news
  T : Top qv (looseW qv looseL) mean mg mb g
noncomputable abbrev pr : Program := PySem.Challenge.rw_pf0216_01.row.prog
section
variable {w : World} {mean : ExcName → Option Value} {mg mb : Str → Option Value} {A₀ : Around} {base g : Heap} {outer : List Env} {L : Addr} {m : Str → Option Value} {news : Led} {h : Heap}
theorem Sit.to (S : Sit w mean mg mb A₀ base outer g L m news h) {h' : Heap} {m' : Str → Option Value} {news' : Led} (F : Fr g L h' m') (N : News g L h' news') : Sit w mean mg mb A₀ base outer g L m' news' h' := ⟨S.B, F, S.X, N, S.T⟩
theorem Sit.K (S : Sit w mean mg mb A₀ base outer g L m news h) : (K0 w.params).In h := S.X.keeps S.F.keep
end
noncomputable def Call (w : World) (mean : ExcName → Option Value) (mg mb : Str → Option Value) (f : Addr) (d : Nat) (vs : List Value) (news : Led) (P : Value → Led → Prop) : Prop :=
  ∀ (dp un : Nat) (gd : Option (List Code)) (cn : Str) (cs : Scope) (a : Addr) (ccd : Value) (cl : List (Str × Addr)) (outer : List Env) (A₀ : Around) (base g : Heap) (L : Addr) (m : Str → Option Value) (s : Shared) (Q E : Value → Shared → Prop),
    Sit w mean mg mb A₀ base outer g L m news s.heap → cs.kind = .function → dp + d ≤ 900 → un + 20 * d ≤ 9000 →
    (∀ r news' h' tk', P r news' → Fr g L h' m → News g L h' news' → Q r { s with heap := h', toks := tk' }) →
    wpAny (model pr w) (ktrTop dp un gd cn cs L a ccd cl outer) (call (.ref f) vs) Q E s
noncomputable def Body (w : World) (mean : ExcName → Option Value) (mg mb : Str → Option Value) (f : Addr) (qual : Str) (sc : Scope) (cdv : Value) (bd : List Stmt) (d : Nat) (m : Str → Option Value) (news : Led) (P : Value → Led → Prop) : Prop :=
  ∀ (dp un : Nat) (gd : Option (List Code)) (outer : List Env) (A₀ : Around) (base g : Heap) (L : Addr) (s : Shared) (Q : Flow → Shared → Prop) (E : Value → Shared → Prop),
    Sit w mean mg mb A₀ base outer g L m news s.heap → dp + d ≤ 900 → un + 20 * d ≤ 9000 →
    (∀ fl r m' news' h' tk', P r news' → (fl = .ret r ∨ (fl = .next ∧ r = .none)) → Fr g L h' m' → News g L h' news' → Q fl { s with heap := h', toks := tk' }) →
    wpAny (model pr w) (ktrTop dp un gd qual sc L f cdv [] outer) (execs bd (envX qual sc L f cdv [])) Q E s
theorem Call.of {w : World} {mean : ExcName → Option Value} {mg mb : Str → Option Value} {f : Addr} {d : Nat} {vs : List Value} {news : Led} {P : Value → Led → Prop}
    {name qual : Str} {ps : Arguments} {bd : List Stmt} {sc : Scope} {dV kV doc pm cdv ct oc : Value} {an od : Option Addr} {osl : Array (Option Value)} {binds : List (Str × Value)}
    (ho : (K0 w.params).lookup f = some ⟨oc, od, .func (fnOf name qual ps bd sc dV kV doc pm an cdv ct), osl⟩) (hcd : codeIn (K0 w.params) cdv qual = true)
    (hbind : bindArgs (fnOf name qual ps bd sc dV kV doc pm an cdv ct) ⟨vs, []⟩ = pure binds)
    (body : Body w mean mg mb f qual sc cdv bd d (fun y => binds.reverse.lookup y) news P)
    (hloc : (binds.all fun x => decide (sc.names.lookup x.1 = some .local)) = true := by kernel_rfl)
    (hco : sc.isCoroutine = false := by rfl) (hgen : sc.isGenerator = false := by rfl) (hks : sc.kind = .function := by rfl) (hcell : ∀ x ∈ sc.names, x.2 ≠ .cell := by decide) : Call w mean mg mb f (d + 1) vs news P := by
  intro dp un gd cn cs a ccd cl outer A₀ base g L m s Q E S hk hd hu ret
  refine wpAny_call (code_def S.B S.F S.X S.N S.T rfl rfl hk ho hcd (by show dp < recursionLimit; simp only [recursionLimit]; omega) (BindsTo.of_eq hbind) (locs hloc) (fun g' L' h₁ FG F' N' B' X' T' => ?_) hco hgen hks hcell)
  refine body (dp + 1) (un + 3) gd _ _ base g' L' _ _ _ ⟨B', F', X', N', T'⟩ (by omega) (by omega) fun fl r m' news' h' tk' hp hfl F2 N2 => ?_
  rcases hfl with rfl | ⟨rfl, rfl⟩ <;> exact ⟨L', m', news', F2, N2, fun F3 N3 => ret _ news' _ _ hp F3 N3⟩
section
variable {prog : Program} {w : World} {A : Around} {g : Heap} {L a : Addr} {cn : Str} {cs : Scope} {ccd : Value} {cl : List (Str × Addr)} {m : Str → Option Value} {news : Led} {s : Shared} {rest : List Stmt} {Q : Flow → Shared → Prop} {E : Value → Shared → Prop} {pos np : Pos} {x : Str} {e : Expr} {P : Value → Prop}
theorem st_assign (F : Fr g L s.heap m) (N : News g L s.heap news) (pv : PV prog w A (envX cn cs L a ccd cl) s.heap e P)
    (k : ∀ v h' tk, P v → Fr g L h' (fun y => if y = x then some v else m y) → News g L h' news → wpAny (model prog w) A (execs rest (envX cn cs L a ccd cl)) Q E { s with heap := h', toks := tk })
    (hk : cs.kind = .function := by rfl) (hx : (envX cn cs L a ccd cl).kindOf x = some .local := by rfl) (hs : swapsWith e (some (.Name x np)) pos.line (envX cn cs L a ccd cl) = pure false := by rfl) :
    wpAny (model prog w) A (execs (.Assign [.Name x np] e pos :: rest) (envX cn cs L a ccd cl)) Q E s :=
  wpAny_execs_cons (wpAny_Assign_Name (pv.use fun v tk hv => storeX_L F N (fun h' F' N' => k v h' _ hv F' N') hk hx) hs)
theorem st_return {env : Env} (pv : PV prog w A env s.heap e P) (k : ∀ v tk, P v → Q (.ret v) { s with toks := tk }) : wpAny (model prog w) A (execs (.Return (some e) pos :: rest) env) Q E s :=
  wpAny_execs_cons (wpAny_Return_some (pv.use fun v tk hv => k v tk hv))
theorem st_if {env : Env} {body orelse : List Stmt} {b : Bool} (tv : TV prog w A env s.heap e b) (k : ∀ tk, wpAny (model prog w) A (execs (if b then body else orelse) env) (fun f s' => match f with | .next => wpAny (model prog w) A (execs rest env) Q E s' | f => Q f s') E { s with toks := tk }) :
    wpAny (model prog w) A (execs (.If e body orelse pos :: rest) env) Q E s :=
  wpAny_execs_cons (wpAny_If (tv.use fun tk => by have := k tk; cases b <;> exact this))
end
end Mine
end
section
open PySem PySem.W PyProof.Rows
set_option maxHeartbeats 400000
namespace Mine
noncomputable def gbLow (x : Int) : Int := Builtin.bitOr (Builtin.bitOr (Builtin.bitAnd (x.fdiv (2 ^ 7)) (1 : Nat) * 2 ^ 11) (Builtin.bitAnd (x.fdiv (2 ^ 8)) (15 : Nat) * 2 ^ 1)) (Builtin.bitAnd (x.fdiv (2 ^ 25)) (63 : Nat) * 2 ^ 5)
noncomputable def gbF (x : Int) : Int := if x.fdiv (2 ^ 31) != 0 then gbLow x - 4096 else gbLow x
theorem gb {w : World} {mean : ExcName → Option Value} {mg mb : Str → Option Value} {news : Led} {x : Int} {t : Tok} :
    Call w mean mg mb 1056 1 [.int x t] news (fun r n => IsI (gbF x) r ∧ n = news) := by
  refine Call.of (fo1056 _) (co1056 _) (binds := [("word", .int x t)]) (by kernel_rfl) ?_
  intro dp un gd outer A₀ base g L s Q E S hd hu ret
  have nm := fun p => PV.nameI (prog := pr) (w := w) (A := ktrTop dp un gd (Str.ofString "gathered_branch") scF29 L 1056 (Value.ref 1055) [] outer) (cn := "gathered_branch") (cs := scF29) (a := 1056) (ccd := .ref 1055) (cl := []) (x := "word") (pos := p) (i := x) (t := t) S.F rfl
  refine st_assign (x := "low") S.F S.N (P := IsI (gbLow x)) (.or_ (.or_ (.shl_and (.and_ (.shr (nm _) (.const 7 _ _)) (.const 1 _ _)) (.const 11 _ _)) (.shl_and (.and_ (.shr (nm _) (.const 8 _ _)) (.const 15 _ _)) (.const 1 _ _))) (.shl_and (.and_ (.shr (nm _) (.const 25 _ _)) (.const 63 _ _)) (.const 5 _ _))) ?_
  intro v h' tk hv F' N'
  obtain ⟨t', rfl⟩ := hv
  refine st_return (P := IsI (gbF x)) (.ite (b := x.fdiv (2 ^ 31) != 0) (.int (.shr (.nameI F' (i := x) (t := t)) (.const 31 _ _))) (fun e => ?_) (fun e => ?_)) ?_
  · exact (PV.sub (.nameI F' (i := gbLow x) (t := t')) (.const 4096 _ _)).mono fun v hv => by unfold gbF; rw [if_pos e]; exact hv
  · exact (PV.nameI F' (i := gbLow x) (t := t')).mono fun v hv => by unfold gbF; rw [if_neg (by rw [e]; decide)]; exact hv
  · intro v tk' hv
    exact ret _ v _ _ _ _ ⟨hv, rfl⟩ (.inl rfl) F' N'
end Mine
end
section
open PySem PySem.W PyProof.Rows PySem.Calls
set_option maxHeartbeats 400000
namespace Mine
structure At where
  A : Around
  env : Env
  g : Heap
  L : Addr
  m : Str → Option Value
noncomputable def EV (w : World) (a : At) (news : Led) (e : Expr) (P : Value → Led → Prop) : Prop :=
  ∀ (s : Shared) (Q E : Value → Shared → Prop), Fr a.g a.L s.heap a.m → News a.g a.L s.heap news →
    (∀ v n h' tk, P v n → Fr a.g a.L h' a.m → News a.g a.L h' n → Q v { s with heap := h', toks := tk }) → wpAny (model pr w) a.A (eval e a.env) Q E s
noncomputable def EVs (w : World) (a : At) (news : Led) (es : List Expr) (P : List Value → Led → Prop) : Prop :=
  ∀ (pos : Pos) (s : Shared) (Q : List Value → Shared → Prop) (E : Value → Shared → Prop), Fr a.g a.L s.heap a.m → News a.g a.L s.heap news →
    (∀ vs n h' tk, P vs n → Fr a.g a.L h' a.m → News a.g a.L h' n → Q vs { s with heap := h', toks := tk }) → wpAny (model pr w) a.A (spliced (backTo pos (starEach es a.env))) Q E s
noncomputable def TE (w : World) (a : At) (news : Led) (e : Expr) (b : Bool) : Prop :=
  ∀ (s : Shared) (Q : Bool → Shared → Prop) (E : Value → Shared → Prop), Fr a.g a.L s.heap a.m → News a.g a.L s.heap news →
    (∀ h' tk, Fr a.g a.L h' a.m → News a.g a.L h' news → Q b { s with heap := h', toks := tk }) → wpAny (model pr w) a.A (isTrue e a.env (eval e a.env)) Q E s
noncomputable abbrev Same (news : Led) (P : Value → Prop) : Value → Led → Prop := fun v n => P v ∧ n = news
section
variable {w : World} {a : At} {news : Led}
theorem EV.mono {e : Expr} {P R : Value → Led → Prop} (x : EV w a news e P) (f : ∀ v n, P v n → R v n) : EV w a news e R := fun s Q E F N q => x s Q E F N fun v n h' tk p F' N' => q v n h' tk (f _ _ p) F' N'
theorem EV.pv {e : Expr} {P : Value → Prop} (x : ∀ h, Fr a.g a.L h a.m → News a.g a.L h news → PV pr w a.A a.env h e P) : EV w a news e (Same news P) := fun s Q E F N q => x _ F N s Q E rfl fun v tk p => q v news s.heap tk ⟨p, rfl⟩ F N
theorem TE.tv {e : Expr} {b : Bool} (x : ∀ h, Fr a.g a.L h a.m → News a.g a.L h news → TV pr w a.A a.env h e b) : TE w a news e b := fun s Q E F N q => x _ F N s Q E rfl fun tk => q s.heap tk F N
theorem EVs.nil {P : List Value → Led → Prop} (p : P [] news) : EVs w a news [] P := fun pos s Q E F N q => spliced_none (q [] news s.heap s.toks p F N)
theorem EVs.cons {e : Expr} {es : List Expr} {P : Value → Led → Prop} {R : List Value → Led → Prop} (x : EV w a news e P) (y : ∀ v n, P v n → EVs w a n es fun vs n' => R (v :: vs) n')
    (he : starEach (e :: es) a.env = (false, eval e a.env) :: starEach es a.env := by rfl) : EVs w a news (e :: es) R := fun pos s Q E F N q =>
  spliced_more (x s _ _ F N fun v n h' tk p F' N' => y v n p pos _ _ _ F' N' fun vs n' h'' tk' r F'' N'' => q (v :: vs) n' h'' tk' r F'' N'') he
theorem EV.nameL {cn : Str} {cs : Scope} {L f : Addr} {ccd : Value} {cl : List (Str × Addr)} {x : Str} {pos : Pos} {v : Value} {P : Value → Prop} (henv : a.env = envX cn cs L f ccd cl) (hL : a.L = L) (hv : a.m x = some v) (p : P v)
    (hk : cs.kind = .function := by rfl) (hx : (envX cn cs L f ccd cl).kindOf x = some .local := by rfl) (hd : (x == ("__debug__" : Str)) = false := by decide) : EV w a news (.Name x pos) (Same news P) := fun s Q E F N q => by
  rw [henv]
  exact nameX_L (hL ▸ F) hv (q v news s.heap s.toks ⟨p, rfl⟩ F N) hk hx hd
theorem EV.call {cn : Str} {cs : Scope} {L f0 : Addr} {ccd : Value} {cl : List (Str × Addr)} {mean : ExcName → Option Value} {mg mb : Str → Option Value} {A₀ : Around} {base : Heap} {outer : List Env} {dp un : Nat} {gd : Option (List Code)}
    {x : Str} {np pos : Pos} {e0 : Expr} {es : List Expr} {f : Addr} {d : Nat} {Pa : List Value → Led → Prop} {P : Value → Led → Prop}
    (ha : a = ⟨ktrTop dp un gd cn cs L f0 ccd cl outer, envX cn cs L f0 ccd cl, a.g, L, a.m⟩) (B : Below A₀ base outer a.g) (X : (K0 w.params).In a.g) (T : Top qv (looseW qv looseL) mean mg mb a.g)
    (hf : nsIn (K0 w.params) mainGlobals x = some (some (.ref f))) (hkeep : keepIn (K0 w.params) (.ref f) = true)
    (args : EVs w a news (e0 :: es) Pa) (C : ∀ vs n, Pa vs n → Call w mean mg mb f d vs n P) (hd : dp + d ≤ 900) (hu : un + 20 * d ≤ 9000)
    (hk : cs.kind = .function := by rfl) (hx : (envX cn cs L f0 ccd cl).kindOf x = some .globalImplicit := by rfl) (hdb : (x == ("__debug__" : Str)) = false := by decide)
    (he : starEach (e0 :: es) (envX cn cs L f0 ccd cl) = (false, eval e0 (envX cn cs L f0 ccd cl)) :: starEach es (envX cn cs L f0 ccd cl) := by rfl) (hplain : (backTo pos (starEach es (envX cn cs L f0 ccd cl))).any (·.1) = false := by rfl) :
    EV w a news (.Call (.Name x np) (e0 :: es) [] pos) P := by
  obtain ⟨aA, aenv, ag, aL, am⟩ := a
  obtain ⟨rfl, rfl, -, rfl, -⟩ := At.mk.inj ha
  intro s Q E F N q
  refine wpAny_Call_ofName (nameX_K F X (topRead_of T) hf ?_ hk hx hdb)
  refine callWith_K (h₀ := ag) X hkeep ?_ he hplain
  refine args pos s _ _ F N fun vs n h' tk hp F' N' => ⟨X.keeps F'.keep, ?_⟩
  exact C vs n hp _ _ _ _ _ _ _ _ _ _ _ _ _ _ _ _ _ ⟨B, F', X, N', T⟩ hk hd hu fun r n' h'' tk' hr F'' N'' => q r n' h'' tk' hr F'' N''
end
section
variable {w : World} {A : Around} {env : Env} {h : Heap} {g : Heap} {L : Addr} {m : Str → Option Value}
theorem PV.clsAttr {cn : Str} {cs : Scope} {L' f : Addr} {ccd : Value} {cl : List (Str × Addr)} {mean : ExcName → Option Value} {mg mb : Str → Option Value} {x attr : Str} {np pos : Pos} {C : Addr} {mc v : Value}
    (F : Fr g L h m) (X : (K0 w.params).In g) (T : Top qv (looseW qv looseL) mean mg mb g)
    (hf : nsIn (K0 w.params) mainGlobals x = some (some (.ref C))) (hm : typeIn (K0 w.params) (.ref C) = some mc) (hr : readsIn (K0 w.params) C mc = true) (e : findCls (K0 w.params) (.ref C) mc attr = some (.val v)) (hh : handedIn v = true)
    (hL : L' = L) (hk : cs.kind = .function := by rfl) (hx : (envX cn cs L' f ccd cl).kindOf x = some .globalImplicit := by rfl) (hdb : (x == ("__debug__" : Str)) = false := by decide) :
    PV pr w A (envX cn cs L' f ccd cl) h (.Attribute (.Name x np) attr pos) (· = v) := fun s Q E hs q => by
  subst hs hL
  exact Attribute_name (nameX_K F X (topRead_of T) hf (cls_val F X hm hr e hh (q v _ rfl)) hk hx hdb)
theorem PV.instAttr {x attr : Str} {np pos : Pos} {o C : Addr} {ox : Obj} {es : List DictEntry} {n : Nat} {v : Value} {at_ : Option Value}
    (F : Fr g L h m) (X : (K0 w.params).In g) (nm : PV pr w A env h (.Name x np) (· = .ref o)) (I : InstAt h o ox C (some (dictOf es n)))
    (hg : plainGet (K0 w.params) C attr = true) (hh : hasDictIn (K0 w.params) C = true) (ha : findIn (K0 w.params) (.ref C) attr = some at_) (hn : noGet (K0 w.params) at_ = true) (hl : getL attr es = some (some v)) (hv : handedIn v = true) :
    PV pr w A env h (.Attribute (.Name x np) attr pos) (· = v) := fun s Q E hs q => by
  subst hs
  refine Attribute_name (nm s _ _ rfl fun u tk hu => ?_)
  subst hu
  exact get_own (s := { s with toks := tk }) (ox := ox) (n := n) (es := es) (m := m) (h₀ := g) (L := L) F X I hg hh ha hn hl hv (q v _ rfl)
theorem TV.inInt {l r : Expr} {pos : Pos} {k : Int} {d : Addr} {f : Int → Option Value} (x : PV pr w A env h l (IsI k)) (y : PV pr w A env h r (· = .ref d)) (hd : (d == sysModules) = false) (hm : h.MapOf (intKind pr w) d f)
    (hmk : behindInMarks .In r = false := by with_unfolding_all rfl) : TV pr w A env h (.Compare l [.In] [r] pos) (f k).isSome :=
  .cmp x y (fun s u v Q E hs hu hv q => by
    obtain ⟨t, rfl⟩ := hu
    subst hv
    exact wpAny_in_of (intKind_is pr w k t) hd (by rw [hs]; exact hm) (q _)) hmk
theorem PV.itemInt {value slice : Expr} {pos : Pos} {k : Int} {d : Addr} {f : Int → Option Value} {v : Value} (x : PV pr w A env h value (· = .ref d)) (y : PV pr w A env h slice (IsI k)) (hm : h.MapOf (intKind pr w) d f) (hv : f k = some v)
    (hs' : ∀ t, subscripted slice false (.ref d) (.int k t) = operate [.ref d, .int k t] (getItem (.ref d) (.int k t)) := by intro _; with_unfolding_all rfl) : PV pr w A env h (.Subscript value slice pos) (· = v) := fun s Q E hs q =>
  Subscript_ (x s _ _ hs fun u tk hu => by
    subst hu
    refine y _ _ _ hs fun i tk' hi => ?_
    obtain ⟨t, rfl⟩ := hi
    have hm' : ({ s with toks := tk' } : Shared).heap.MapOf (intKind pr w) d f := by show s.heap.MapOf _ _ _; rw [hs]; exact hm
    exact tail_any hm'.typeIs slot_dict_getitem.lookup (wpAny_getItem_of (intKind_is pr w k t) hm' hv (q v _ rfl)) (hs' t))
end
noncomputable def pairsI (es : List DictEntry) : List (Int × Value) := es.filterMap fun e => match e.key with | .int i _ => some (i, e.val) | _ => none
noncomputable def allI (es : List DictEntry) : Bool := es.all fun e => match e.key with | .int i _ => e.hash == hashInt i | _ => false
theorem findBy_pairs : ∀ (es : List DictEntry), allI es = true → ∀ k, findBy Value.isInt es.toArray k = (pairsI es).lookup k
  | [], _, _ => rfl
  | e :: es, h, k => by
    obtain ⟨h1, h2⟩ : _ ∧ allI es = true := by simpa only [allI, List.all_cons, Bool.and_eq_true] using h
    have ih := findBy_pairs es h2 k
    obtain ⟨hsh, key, val⟩ := e
    cases key with
    | int i t =>
      simp only [findBy, List.find?_toArray, List.find?_cons, pairsI, List.filterMap_cons, List.lookup_cons, Value.isInt] at ih ⊢
      by_cases hk : i = k
      · subst hk; simp
      · have h3 : (i == k) = false := by simpa using hk
        have h4 : (k == i) = false := by simpa using fun q => hk q.symm
        rw [h3, h4]
        exact ih
    | _ => cases h1
theorem allI_hash {e : DictEntry} (h : (match e.key with | .int i _ => e.hash == hashInt i | _ => false) = true) : ∃ i t, e.key = .int i t ∧ e.hash = hashInt i := by
  split at h
  · next i t hk => exact ⟨i, t, hk, by simpa using h⟩
  · cases h
theorem mapI_K {w : World} {h : Heap} (X : (K0 w.params).In h) {d : Addr} {es : List DictEntry} {n : Nat} (hl : (K0 w.params).lookup d = some ⟨.type "dict", none, .dict es.toArray n, #[]⟩) (ha : allI es = true) : h.MapOf (intKind pr w) d (fun k => (pairsI es).lookup k) :=
  by
  refine ⟨_, es.toArray, n, X _ _ hl, ⟨rfl, rfl, rfl⟩, rfl, fun e he => ?_, fun k => findBy_pairs es ha k⟩
  have he' : e ∈ es := by simpa using he
  obtain ⟨i, t, hk, hh⟩ := allI_hash (List.all_eq_true.mp ha e he')
  exact ⟨i, by rw [hk]; exact intKind_is pr w i t, by rw [hh]; rfl⟩
noncomputable def shT : List (Nat × Str × Str × Int × Int × Int) :=
  (156, "lui", "U", 55, 0, 0) ::
  (159, "auipc", "U", 23, 0, 0) ::
  (162, "jal", "J", 111, 0, 0) ::
  (165, "jalr", "I", 103, 0, 0) ::
  (178, "beq", "B", 99, 0, 0) ::
  (185, "bne", "B", 99, 1, 0) ::
  (200, "blt", "B", 99, 4, 0) ::
  (207, "bge", "B", 99, 5, 0) ::
  (214, "bltu", "B", 99, 6, 0) ::
  (221, "bgeu", "B", 99, 7, 0) ::
  (235, "lb", "I", 3, 0, 0) ::
  (242, "lh", "I", 3, 1, 0) ::
  (249, "lw", "I", 3, 2, 0) ::
  (260, "lbu", "I", 3, 4, 0) ::
  (267, "lhu", "I", 3, 5, 0) ::
  (281, "sb", "S", 35, 0, 0) ::
  (288, "sh", "S", 35, 1, 0) ::
  (295, "sw", "S", 35, 2, 0) ::
  (309, "addi", "I", 19, 0, 0) ::
  (320, "slti", "I", 19, 2, 0) ::
  (327, "sltiu", "I", 19, 3, 0) ::
  (334, "xori", "I", 19, 4, 0) ::
  (345, "ori", "I", 19, 6, 0) ::
  (352, "andi", "I", 19, 7, 0) ::
  (370, "slli", "shift", 19, 1, 0) ::
  (389, "srli", "shift", 19, 5, 0) ::
  (423, "srai", "shift", 19, 5, 32) ::
  (437, "add", "R", 51, 0, 0) ::
  (444, "sll", "R", 51, 1, 0) ::
  (451, "slt", "R", 51, 2, 0) ::
  (458, "sltu", "R", 51, 3, 0) ::
  (465, "xor", "R", 51, 4, 0) ::
  (472, "srl", "R", 51, 5, 0) ::
  (479, "or", "R", 51, 6, 0) ::
  (486, "and", "R", 51, 7, 0) ::
  (500, "sub", "R", 51, 0, 32) ::
  (523, "sra", "R", 51, 5, 32) ::
  (537, "mul", "R", 51, 0, 1) ::
  (544, "mulh", "R", 51, 1, 1) ::
  (551, "mulhsu", "R", 51, 2, 1) ::
  (558, "mulhu", "R", 51, 3, 1) ::
  (565, "div", "R", 51, 4, 1) ::
  (572, "divu", "R", 51, 5, 1) ::
  (579, "rem", "R", 51, 6, 1) ::
  (586, "remu", "R", 51, 7, 1) ::
  (600, "fence", "fence", 15, 0, 0) ::
  (607, "fence.i", "fence", 15, 1, 0) ::
  (625, "csrrw", "CSR", 115, 1, 0) ::
  (632, "csrrs", "CSR", 115, 2, 0) ::
  (639, "csrrc", "CSR", 115, 3, 0) ::
  (673, "csrrwi", "CSRI", 115, 5, 0) ::
  (680, "csrrsi", "CSRI", 115, 6, 0) ::
  (687, "csrrci", "CSRI", 115, 7, 0) ::
  (692, "sfence.vma", "flush", 115, 0, 9) ::
  (705, "ecall", "system", 115, 0, 0) ::
  (711, "ebreak", "system", 1048691, 0, 0) ::
  (717, "sret", "system", 270532723, 0, 0) ::
  (723, "wfi", "system", 273678451, 0, 0) ::
  (729, "mret", "system", 807403635, 0, 0) ::
  []
noncomputable def tOpc : List (Int × Nat) := (55, 156) :: (23, 159) :: (111, 162) :: []
noncomputable def tThird : List (Int × Nat) := (103, 165) :: (99, 178) :: (4195, 185) :: (16483, 200) :: (20579, 207) :: (24675, 214) :: (28771, 221) :: (3, 235) :: (4099, 242) :: (8195, 249) :: (16387, 260) :: (20483, 267) :: (35, 281) :: (4131, 288) :: (8227, 295) :: (19, 309) :: (8211, 320) :: (12307, 327) :: (16403, 334) :: (24595, 345) :: (28691, 352) :: (15, 600) :: (4111, 607) :: (4211, 625) :: (8307, 632) :: (12403, 639) :: (20595, 673) :: (24691, 680) :: (28787, 687) :: []
noncomputable def tSev : List (Int × Nat) := (4115, 370) :: (20499, 389) :: (1073762323, 423) :: (51, 437) :: (4147, 444) :: (8243, 451) :: (12339, 458) :: (16435, 465) :: (20531, 472) :: (24627, 479) :: (28723, 486) :: (1073741875, 500) :: (1073762355, 523) :: (33554483, 537) :: (33558579, 544) :: (33562675, 551) :: (33566771, 558) :: (33570867, 565) :: (33574963, 572) :: (33579059, 579) :: (33583155, 586) :: (301990003, 692) :: []
noncomputable def tWhole : List (Int × Nat) := (115, 705) :: (1048691, 711) :: (270532723, 717) :: (273678451, 723) :: (807403635, 729) :: []
noncomputable def tName : List (Str × Nat) := ("lui", 156) :: ("auipc", 159) :: ("jal", 162) :: ("jalr", 165) :: ("beq", 178) :: ("bne", 185) :: ("blt", 200) :: ("bge", 207) :: ("bltu", 214) :: ("bgeu", 221) :: ("lb", 235) :: ("lh", 242) :: ("lw", 249) :: ("lbu", 260) :: ("lhu", 267) :: ("sb", 281) :: ("sh", 288) :: ("sw", 295) :: ("addi", 309) :: ("slti", 320) :: ("sltiu", 327) :: ("xori", 334) :: ("ori", 345) :: ("andi", 352) :: ("slli", 370) :: ("srli", 389) :: ("srai", 423) :: ("add", 437) :: ("sll", 444) :: ("slt", 451) :: ("sltu", 458) :: ("xor", 465) :: ("srl", 472) :: ("or", 479) :: ("and", 486) :: ("sub", 500) :: ("sra", 523) :: ("mul", 537) :: ("mulh", 544) :: ("mulhsu", 551) :: ("mulhu", 558) :: ("div", 565) :: ("divu", 572) :: ("rem", 579) :: ("remu", 586) :: ("fence", 600) :: ("fence.i", 607) :: ("csrrw", 625) :: ("csrrs", 632) :: ("csrrc", 639) :: ("csrrwi", 673) :: ("csrrsi", 680) :: ("csrrci", 687) :: ("sfence.vma", 692) :: ("ecall", 705) :: ("ebreak", 711) :: ("sret", 717) :: ("wfi", 723) :: ("mret", 729) :: []
noncomputable def gS (o : Option (Option Value)) : Option Str := match o with | some (some (.str x _)) => some x | _ => none
noncomputable def gI (o : Option (Option Value)) : Option Int := match o with | some (some (.int x _)) => some x | _ => none
theorem gS_of {o : Option (Option Value)} {x : Str} (h : gS o = some x) : ∃ k, o = some (some (.str x k)) := by
  unfold gS at h
  split at h <;> cases h
  exact ⟨_, rfl⟩
theorem gI_of {o : Option (Option Value)} {x : Int} (h : gI o = some x) : ∃ k, o = some (some (.int x k)) := by
  unfold gI at h
  split at h <;> cases h
  exact ⟨_, rfl⟩
structure Shp (h : Heap) (a : Addr) (nm kd : Str) (o t s : Int) (sl : Array (Option Value)) (dx : Addr) (es : List DictEntry) (n : Nat) : Prop where
  at_ : InstAt h a ⟨.ref 127, some dx, .plain, sl⟩ 127 (some (dictOf es n))
  name : ∃ k, getL "name" es = some (some (.str nm k))
  kind : ∃ k, getL "kind" es = some (some (.str kd k))
  opcode : ∃ k, getL "opcode" es = some (some (.int o k))
  third : ∃ k, getL "third" es = some (some (.int t k))
  seventh : ∃ k, getL "seventh" es = some (some (.int s k))
  fixed : getL "fixed" es = some none
noncomputable def esK (P : Params) (d : Addr) : List DictEntry := match (K0 P).lookup d with | some ⟨_, _, .dict es _, _⟩ => es.toList | _ => []
theorem shIn (P : Params) : shT.map (fun r => (K0 P).lookup r.1) = shT.map (fun r => some ⟨.ref 127, some (r.1 - 1), .plain, #[]⟩) := by kernel_rfl
theorem shDict (P : Params) : shT.map (fun r => (K0 P).lookup (r.1 - 1)) = shT.map (fun r => some ⟨.type "dict", none, .dict (esK P (r.1 - 1)).toArray 5, #[]⟩) := by kernel_rfl
theorem shName (P : Params) : shT.map (fun r => gS (getL "name" (esK P (r.1 - 1)))) = shT.map (fun r => some r.2.1) := by kernel_rfl
theorem shKind (P : Params) : shT.map (fun r => gS (getL "kind" (esK P (r.1 - 1)))) = shT.map (fun r => some r.2.2.1) := by kernel_rfl
theorem shOpc (P : Params) : shT.map (fun r => gI (getL "opcode" (esK P (r.1 - 1)))) = shT.map (fun r => some r.2.2.2.1) := by kernel_rfl
theorem shThird (P : Params) : shT.map (fun r => gI (getL "third" (esK P (r.1 - 1)))) = shT.map (fun r => some r.2.2.2.2.1) := by kernel_rfl
theorem shSev (P : Params) : shT.map (fun r => gI (getL "seventh" (esK P (r.1 - 1)))) = shT.map (fun r => some r.2.2.2.2.2) := by kernel_rfl
theorem shFix (P : Params) : shT.map (fun r => getL "fixed" (esK P (r.1 - 1))) = shT.map (fun _ => some none) := by kernel_rfl
theorem shp_all {P : Params} {r : Nat × Str × Str × Int × Int × Int} (m : r ∈ shT) : ∃ sl dx es n, ∀ h, (K0 P).In h → Shp h r.1 r.2.1 r.2.2.1 r.2.2.2.1 r.2.2.2.2.1 r.2.2.2.2.2 sl dx es n :=
  ⟨#[], r.1 - 1, esK P (r.1 - 1), 5, fun h X => ⟨.of_K X (List.map_inj_left.mp (shIn P) r m) (List.map_inj_left.mp (shDict P) r m), gS_of (List.map_inj_left.mp (shName P) r m), gS_of (List.map_inj_left.mp (shKind P) r m), gI_of (List.map_inj_left.mp (shOpc P) r m),
    gI_of (List.map_inj_left.mp (shThird P) r m), gI_of (List.map_inj_left.mp (shSev P) r m), List.map_inj_left.mp (shFix P) r m⟩⟩
noncomputable abbrev refs (t : List (Int × Nat)) (k : Int) : Option Value := (t.lookup k).map Value.ref
theorem lookup_refs (t : List (Int × Nat)) (k : Int) : (t.map fun p => (p.1, Value.ref p.2)).lookup k = refs t k := by
  induction t with
  | nil => rfl
  | cons p t ih =>
    obtain ⟨i, a⟩ := p
    simp only [List.map_cons, List.lookup_cons, refs] at ih ⊢
    cases k == i <;> simp [ih]
theorem mapT {w : World} {h : Heap} (X : (K0 w.params).In h) {d : Addr} {n : Nat} {t : List (Int × Nat)} (hl : (K0 w.params).lookup d = some ⟨.type "dict", none, .dict (esK w.params d).toArray n, #[]⟩) (ha : allI (esK w.params d) = true)
    (hp : pairsI (esK w.params d) = t.map fun p => (p.1, Value.ref p.2)) : h.MapOf (intKind pr w) d (refs t) := by
  have := mapI_K X hl ha
  rw [hp] at this
  simpa only [lookup_refs] using this
theorem mapOpc {w : World} {h : Heap} (X : (K0 w.params).In h) : h.MapOf (intKind pr w) 739 (refs tOpc) := mapT X (n := 3) (by kernel_rfl) (by kernel_rfl) (by kernel_rfl)
theorem mapWhole {w : World} {h : Heap} (X : (K0 w.params).In h) : h.MapOf (intKind pr w) 982 (refs tWhole) := mapT X (n := 5) (by kernel_rfl) (by kernel_rfl) (by kernel_rfl)
theorem mapThird {w : World} {h : Heap} (X : (K0 w.params).In h) : h.MapOf (intKind pr w) 803 (refs tThird) := mapT X (n := 29) (by kernel_rfl) (by kernel_rfl) (by kernel_rfl)
theorem mapSev {w : World} {h : Heap} (X : (K0 w.params).In h) : h.MapOf (intKind pr w) 896 (refs tSev) := mapT X (n := 22) (by kernel_rfl) (by kernel_rfl) (by kernel_rfl)
section
variable {w : World} {A : Around} {env : Env} {h : Heap}
theorem PV.getInt {o e : Expr} {apos pos : Pos} {k : Int} {d : Addr} {f : Int → Option Value} (x : PV pr w A env h o (· = .ref d)) (y : PV pr w A env h e (IsI k)) (hd : (d == sysModules) = false) (hm : h.MapOf (intKind pr w) d f)
    (hbase : attributeBase o "get" env (eval o env) = eval o env := by rfl) (hline : (apos.endLine == pos.line) = true := by rfl) (htrees : backTo pos (starEach [e] env) = [(false, eval e env)] := by rfl) :
    PV pr w A env h (.Call (.Attribute o "get" apos) [e] [] pos) (· = (f k).getD .none) := fun s Q E hs q => by
  refine wpAny_Call_method1_late hbase hline htrees (x s _ _ hs fun v tk hv => ?_)
  subst hv
  have hm' : ({ s with toks := tk } : Shared).heap.MapOf (intKind pr w) d f := by show s.heap.MapOf _ _ _; rw [hs]; exact hm
  refine ⟨"dict", "dict.get", F.plainAttrs_dict, F.slot_dict_get, F.type_dict_get, hm'.typeIs, hm'.noDict, wpAny_dict_get1 (knd := intKind pr w) hd (y _ _ _ hs fun v tk' hv => ?_)⟩
  obtain ⟨t, rfl⟩ := hv
  exact ⟨k, f, intKind_is pr w k t, hm', q _ _ rfl⟩
end
noncomputable abbrev IsS (x : Str) : Value → Prop := fun v => ∃ t, v = .str x t
theorem PV.constS (x : Str) (k : Nat) (pos : Pos) {w : World} {A : Around} {env : Env} {h : Heap} : PV pr w A env h (.Constant (.str x) k pos) (IsS x) := fun s Q E hs q => wpAny_Constant_str (q _ _ ⟨_, rfl⟩)
theorem PV.constN (k : Nat) (pos : Pos) {w : World} {A : Around} {env : Env} {h : Heap} : PV pr w A env h (.Constant .none k pos) (· = .none) := fun s Q E hs q => wpAny_Constant_none (q _ s.toks rfl)
theorem str_beq (a b : Str) : (a.cps.toList == b.cps.toList) = (a == b) := by
  rw [Bool.eq_iff_iff, beq_iff_eq, beq_iff_eq]
  constructor
  · intro h
    obtain ⟨x⟩ := a
    obtain ⟨y⟩ := b
    exact congrArg Str.mk (Array.toList_inj.mp h)
  · intro h; rw [h]
theorem TV.eqS {l r : Expr} {pos : Pos} {a b : Str} {w : World} {A : Around} {env : Env} {h : Heap} (x : PV pr w A env h l (IsS a)) (y : PV pr w A env h r (IsS b)) (hm : behindInMarks .Eq r = false := by with_unfolding_all rfl) : TV pr w A env h (.Compare l [.Eq] [r] pos) (a == b) :=
  .cmp x y (fun s u v Q E _ hu hv q => by obtain ⟨t, rfl⟩ := hu; obtain ⟨t', rfl⟩ := hv; exact eq_str (q s.toks)) hm
theorem PV.shAttr {w : World} {A : Around} {env : Env} {g h : Heap} {L : Addr} {m : Str → Option Value} {x attr : Str} {np pos : Pos} {o C : Addr} {ox : Obj} {es : List DictEntry} {n : Nat} {b : Str} {t : Tok} {at_ : Option Value}
    (F : Fr g L h m) (X : (K0 w.params).In g) (nm : PV pr w A env h (.Name x np) (· = .ref o)) (I : InstAt h o ox C (some (dictOf es n)))
    (hg : plainGet (K0 w.params) C attr = true) (hh : hasDictIn (K0 w.params) C = true) (ha : findIn (K0 w.params) (.ref C) attr = some at_) (hn : noGet (K0 w.params) at_ = true) (hl : getL attr es = some (some (.str b t))) (hv : handedIn (.str b t) = true) :
    PV pr w A env h (.Attribute (.Name x np) attr pos) (IsS b) := (PV.instAttr F X nm I hg hh ha hn hl hv).mono fun v e => ⟨t, e⟩
noncomputable def kindOf (a : Nat) : Str := ((shT.lookup a).map (·.2.1)).getD ""
noncomputable def shapeOf (x : Int) : Option Nat :=
  match tOpc.lookup (Builtin.bitAnd x (127 : Nat)) with
  | some a => some a
  | none => match tThird.lookup (Builtin.bitAnd x (28799 : Nat)) with
    | some a => some a
    | none => match tSev.lookup (Builtin.bitAnd x (4261441663 : Nat)) with
      | some a => if (kindOf a == "flush") && (Builtin.bitAnd (x.fdiv (2 ^ 7)) (31 : Nat) != 0) then none else some a
      | none => tWhole.lookup x
noncomputable def shV : Option Nat → Value
  | none => .none
  | some a => .ref a
theorem nextStep {w : World} {A : Around} {env : Env} {Q : Flow → Shared → Prop} {E : Value → Shared → Prop} {s : Shared} (q : Q .next s) : wpAny (model pr w) A (execs [] env) Q E s := wpAny_execs_nil q
theorem tSev_ok : tSev.all (fun p => (shT.lookup p.2).isSome) = true := by kernel_rfl
theorem lookup_mem {α β : Type} [BEq α] [LawfulBEq α] : ∀ {l : List (α × β)} {k : α} {v : β}, l.lookup k = some v → (k, v) ∈ l
  | [], _, _, h => by cases h
  | (a, b) :: l, k, v, h => by
    rw [List.lookup_cons] at h
    by_cases e : (k == a) = true
    · rw [e] at h; cases h; rw [eq_of_beq e]; exact .head _
    · rw [Bool.not_eq_true] at e; rw [e] at h; exact .tail _ (lookup_mem h)
theorem sev_row {k : Int} {a : Nat} (h : tSev.lookup k = some a) : ∃ r, shT.lookup a = some r := Option.isSome_iff_exists.mp (List.all_eq_true.mp tSev_ok _ (lookup_mem h))
theorem shp_at {w : World} {h : Heap} (X : (K0 w.params).In h) {a : Addr} {nm kd : Str} {o t s : Int} (e : shT.lookup a = some (nm, kd, o, t, s)) : ∃ sl dx es n, Shp h a nm kd o t s sl dx es n :=
  let ⟨sl, dx, es, n, H⟩ := shp_all (lookup_mem e); ⟨sl, dx, es, n, H h X⟩
theorem fs {w : World} {mean : ExcName → Option Value} {mg mb : Str → Option Value} {news : Led} {x : Int} {t : Tok} :
    Call w mean mg mb 1070 1 [.int x t] news (fun r n => r = shV (shapeOf x) ∧ n = news) := by
  refine Call.of (fo1070 _) (co1070 _) (binds := [("word", .int x t)]) (by kernel_rfl) ?_
  intro dp un gd outer A₀ base g L s Q E S hd hu ret
  have nm := fun p => PV.nameI (prog := pr) (w := w) (A := ktrTop dp un gd (Str.ofString "find_shape") scF31 L 1070 (Value.ref 1069) [] outer) (cn := "find_shape") (cs := scF31) (a := 1070) (ccd := .ref 1069) (cl := []) (x := "word") (pos := p) (i := x) (t := t) S.F rfl
  refine st_assign (x := "opcode") S.F S.N (P := IsI (Builtin.bitAnd x (127 : Nat))) (.and_ (nm _) (.const 127 _ _)) ?_
  intro v h1 tk hv F1 N1
  obtain ⟨t1, rfl⟩ := hv
  have X1 : (K0 w.params).In h1 := S.X.keeps F1.keep
  have kn : ∀ {h : Heap} {m : Str → Option Value} (F : Fr g L h m) (np pos : Pos) (attr : Str) (v : Value), findCls (K0 w.params) (.ref 988) (.type "type") attr = some (.val v) → handedIn v = true → PV pr w (ktrTop dp un gd (Str.ofString "find_shape") scF31 L 1070 (Value.ref 1069) [] outer) (envX "find_shape" scF31 L 1070 (Value.ref 1069) []) h (.Attribute (.Name "Known" np) attr pos) (· = v) :=
    fun F np pos attr v e hh => .clsAttr (C := 988) (mc := .type "type") F S.X S.T (by kernel_rfl) (by kernel_rfl) (by kernel_rfl) e hh rfl
  have nm' := fun {h : Heap} {m : Str → Option Value} (F : Fr g L h m) (y : Str) (p : Pos) (i : Int) (t : Tok) (e : m y = some (.int i t)) hk hx hdb => PV.nameI (prog := pr) (w := w) (A := ktrTop dp un gd (Str.ofString "find_shape") scF31 L 1070 (Value.ref 1069) [] outer) (cn := "find_shape") (cs := scF31) (a := 1070) (ccd := .ref 1069) (cl := []) (x := y) (pos := p) (i := i) (t := t) F e hk hx hdb
  refine st_if (b := (refs tOpc (Builtin.bitAnd x (127 : Nat))).isSome) (.inInt (nm' F1 "opcode" _ _ t1 rfl rfl rfl (by decide)) (kn F1 _ _ "BY_OPCODE" (.ref 739) (by kernel_rfl) rfl) (by decide) (mapOpc X1)) ?_
  intro tk1
  have sh0 : shapeOf x = match tOpc.lookup (Builtin.bitAnd x (127 : Nat)) with | some a => some a | none => _ := rfl
  cases e1 : tOpc.lookup (Builtin.bitAnd x (127 : Nat)) with
  | some a =>
    rw [e1] at sh0
    simp only [refs, e1, Option.map_some, Option.isSome_some, if_true]
    refine st_return (.itemInt (kn F1 _ _ "BY_OPCODE" (.ref 739) (by kernel_rfl) rfl) (nm' F1 "opcode" _ _ t1 rfl rfl rfl (by decide)) (mapOpc X1) (v := .ref a) (by rw [refs, e1]; rfl)) ?_
    intro v tk' hv
    exact ret _ v _ _ _ _ ⟨by rw [hv, sh0]; rfl, rfl⟩ (.inl rfl) F1 N1
  | none =>
    rw [e1] at sh0
    simp only [refs, e1, Option.map_none, Option.isSome_none, Bool.false_eq_true, if_false]
    refine nextStep ?_
    refine st_assign (x := "third") F1 N1 (P := IsI (Builtin.bitAnd x (28799 : Nat))) (.and_ (nm' F1 "word" _ _ t rfl rfl rfl (by decide)) (.const 28799 _ _)) ?_
    intro v h2 tk2 hv F2 N2
    obtain ⟨t2, rfl⟩ := hv
    have X2 : (K0 w.params).In h2 := S.X.keeps F2.keep
    refine st_if (b := (refs tThird (Builtin.bitAnd x (28799 : Nat))).isSome) (.inInt (nm' F2 "third" _ _ t2 rfl rfl rfl (by decide)) (kn F2 _ _ "BY_THIRD" (.ref 803) (by kernel_rfl) rfl) (by decide) (mapThird X2)) ?_
    intro tk3
    cases e2 : tThird.lookup (Builtin.bitAnd x (28799 : Nat)) with
    | some a =>
      rw [e2] at sh0
      simp only [refs, e2, Option.map_some, Option.isSome_some, if_true]
      refine st_return (.itemInt (kn F2 _ _ "BY_THIRD" (.ref 803) (by kernel_rfl) rfl) (nm' F2 "third" _ _ t2 rfl rfl rfl (by decide)) (mapThird X2) (v := .ref a) (by rw [refs, e2]; rfl)) ?_
      intro v tk' hv
      exact ret _ v _ _ _ _ ⟨by rw [hv, sh0]; rfl, rfl⟩ (.inl rfl) F2 N2
    | none =>
      rw [e2] at sh0
      simp only [refs, e2, Option.map_none, Option.isSome_none, Bool.false_eq_true, if_false]
      refine nextStep ?_
      refine st_assign (x := "seventh") F2 N2 (P := IsI (Builtin.bitAnd x (4261441663 : Nat))) (.and_ (nm' F2 "word" _ _ t rfl rfl rfl (by decide)) (.const 4261441663 _ _)) ?_
      intro v h3 tk4 hv F3 N3
      obtain ⟨t3, rfl⟩ := hv
      have X3 : (K0 w.params).In h3 := S.X.keeps F3.keep
      refine st_if (b := (refs tSev (Builtin.bitAnd x (4261441663 : Nat))).isSome) (.inInt (nm' F3 "seventh" _ _ t3 rfl rfl rfl (by decide)) (kn F3 _ _ "BY_SEVENTH" (.ref 896) (by kernel_rfl) rfl) (by decide) (mapSev X3)) ?_
      intro tk5
      cases e3 : tSev.lookup (Builtin.bitAnd x (4261441663 : Nat)) with
      | some a =>
        rw [e3] at sh0
        simp only [refs, e3, Option.map_some, Option.isSome_some, if_true]
        refine st_assign (x := "shape") F3 N3 (P := (· = .ref a)) (.itemInt (kn F3 _ _ "BY_SEVENTH" (.ref 896) (by kernel_rfl) rfl) (nm' F3 "seventh" _ _ t3 rfl rfl rfl (by decide)) (mapSev X3) (v := .ref a) (by rw [refs, e3]; rfl)) ?_
        intro v h4 tk6 hv F4 N4
        subst hv
        obtain ⟨⟨nm0, kd, o, t0, s0⟩, hr⟩ := sev_row e3
        obtain ⟨sl, dx, es, n, H⟩ := shp_at (S.X.keeps F4.keep) hr
        obtain ⟨kt, hkd⟩ := H.kind
        have hk0 : kindOf a = kd := by unfold kindOf; rw [hr]; rfl
        have nmS : ∀ p, PV pr w (ktrTop dp un gd (Str.ofString "find_shape") scF31 L 1070 (Value.ref 1069) [] outer) (envX "find_shape" scF31 L 1070 (Value.ref 1069) []) h4 (.Name "shape" p) (· = .ref a) := fun p => .name F4 rfl rfl
        refine st_return (P := (· = shV (shapeOf x))) (.ite (b := (kd == "flush") && (Builtin.bitAnd (x.fdiv (2 ^ 7)) (31 : Nat) != 0)) (.and2 (.eqS (.shAttr F4 S.X (nmS _) H.at_ (at_ := none) (by kernel_rfl) (by kernel_rfl) (by kernel_rfl) rfl hkd rfl) (.constS _ _ _)) fun _ => .int (.and_ (.shr (nm' F4 "word" _ _ t rfl rfl rfl (by decide)) (.const 7 _ _)) (.const 31 _ _))) (fun e => ?_) (fun e => ?_)) ?_
        · refine PV.mono (.constN _ _) fun v hv => ?_
          rw [hv]
          unfold shapeOf
          rw [e1, e2, e3]
          dsimp only
          rw [hk0, if_pos e]
          rfl
        · refine PV.mono (nmS _) fun v hv => ?_
          rw [hv]
          unfold shapeOf
          rw [e1, e2, e3]
          dsimp only
          rw [hk0, if_neg (by rw [e]; decide)]
          rfl
        · intro v tk' hv
          exact ret _ v _ _ _ _ ⟨hv, rfl⟩ (.inl rfl) F4 N4
      | none =>
        rw [e3] at sh0
        simp only [refs, e3, Option.map_none, Option.isSome_none, Bool.false_eq_true, if_false]
        refine nextStep ?_
        refine st_return (.getInt (kn F3 _ _ "WHOLE" (.ref 982) (by kernel_rfl) rfl) (nm' F3 "word" _ _ t rfl rfl rfl (by decide)) (by decide) (mapWhole X3)) ?_
        intro v tk' hv
        refine ret _ v _ _ _ _ ⟨?_, rfl⟩ (.inl rfl) F3 N3
        rw [hv]
        unfold shapeOf
        rw [e1, e2, e3]
        show (refs tWhole x).getD .none = shV (tWhole.lookup x)
        unfold refs
        cases tWhole.lookup x <;> rfl
end Mine
end
section
open PySem PySem.W PyProof.Rows
set_option maxHeartbeats 400000
namespace Mine
noncomputable abbrev bitsI (x : Int) (p k n : Nat) : Int := Builtin.bitAnd (x.fdiv (2 ^ p)) (k : Nat) * 2 ^ n
noncomputable def gjLow (x : Int) : Int := Builtin.bitOr (Builtin.bitOr (bitsI x 12 255 12) (bitsI x 20 1 11)) (bitsI x 21 1023 1)
noncomputable def gjF (x : Int) : Int := if x.fdiv (2 ^ 31) != 0 then gjLow x - 1048576 else gjLow x
theorem gj {w : World} {mean : ExcName → Option Value} {mg mb : Str → Option Value} {news : Led} {x : Int} {t : Tok} :
    Call w mean mg mb 1063 1 [.int x t] news (fun r n => IsI (gjF x) r ∧ n = news) := by
  refine Call.of (fo1063 _) (co1063 _) (binds := [("word", .int x t)]) (by kernel_rfl) ?_
  intro dp un gd outer A₀ base g L s Q E S hd hu ret
  have nm := fun p => PV.nameI (prog := pr) (w := w) (A := ktrTop dp un gd (Str.ofString "gathered_jump") scF30 L 1063 (Value.ref 1062) [] outer) (cn := "gathered_jump") (cs := scF30) (a := 1063) (ccd := .ref 1062) (cl := []) (x := "word") (pos := p) (i := x) (t := t) S.F rfl
  refine st_assign (x := "low") S.F S.N (P := IsI (gjLow x)) (.or_ (.or_ (.shl_and (.and_ (.shr (nm _) (.const 12 _ _)) (.const 255 _ _)) (.const 12 _ _)) (.shl_and (.and_ (.shr (nm _) (.const 20 _ _)) (.const 1 _ _)) (.const 11 _ _))) (.shl_and (.and_ (.shr (nm _) (.const 21 _ _)) (.const 1023 _ _)) (.const 1 _ _))) ?_
  intro v h' tk hv F' N'
  obtain ⟨t', rfl⟩ := hv
  refine st_return (P := IsI (gjF x)) (.ite (b := x.fdiv (2 ^ 31) != 0) (.int (.shr (.nameI F' (i := x) (t := t)) (.const 31 _ _))) (fun e => ?_) (fun e => ?_)) ?_
  · exact (PV.sub (.nameI F' (i := gjLow x) (t := t')) (.const 1048576 _ _)).mono fun v hv => by unfold gjF; rw [if_pos e]; exact hv
  · exact (PV.nameI F' (i := gjLow x) (t := t')).mono fun v hv => by unfold gjF; rw [if_neg (by rw [e]; decide)]; exact hv
  · intro v tk' hv
    exact ret _ v _ _ _ _ ⟨hv, rfl⟩ (.inl rfl) F' N'
noncomputable def sbF (x : Int) : Int := Builtin.bitOr (Builtin.bitOr (Builtin.bitOr (bitsI x 12 1 31) (bitsI x 5 63 25)) (bitsI x 1 15 8)) (bitsI x 11 1 7)
theorem sb {w : World} {mean : ExcName → Option Value} {mg mb : Str → Option Value} {news : Led} {x : Int} {t : Tok} :
    Call w mean mg mb 1035 1 [.int x t] news (fun r n => IsI (sbF x) r ∧ n = news) := by
  refine Call.of (fo1035 _) (co1035 _) (binds := [("imm", .int x t)]) (by kernel_rfl) ?_
  intro dp un gd outer A₀ base g L s Q E S hd hu ret
  have nm := fun p => PV.nameI (prog := pr) (w := w) (A := ktrTop dp un gd (Str.ofString "spread_branch") scF26 L 1035 (Value.ref 1034) [] outer) (cn := "spread_branch") (cs := scF26) (a := 1035) (ccd := .ref 1034) (cl := []) (x := "imm") (pos := p) (i := x) (t := t) S.F rfl
  refine st_return (P := IsI (sbF x)) (.or_ (.or_ (.or_ (.shl_and (.and_ (.shr (nm _) (.const 12 _ _)) (.const 1 _ _)) (.const 31 _ _)) (.shl_and (.and_ (.shr (nm _) (.const 5 _ _)) (.const 63 _ _)) (.const 25 _ _))) (.shl_and (.and_ (.shr (nm _) (.const 1 _ _)) (.const 15 _ _)) (.const 8 _ _))) (.shl_and (.and_ (.shr (nm _) (.const 11 _ _)) (.const 1 _ _)) (.const 7 _ _))) ?_
  intro v tk' hv
  exact ret _ v _ _ _ _ ⟨hv, rfl⟩ (.inl rfl) S.F S.N
noncomputable def sjF (x : Int) : Int := Builtin.bitOr (Builtin.bitOr (Builtin.bitOr (bitsI x 20 1 31) (bitsI x 1 1023 21)) (bitsI x 11 1 20)) (bitsI x 12 255 12)
theorem sj {w : World} {mean : ExcName → Option Value} {mg mb : Str → Option Value} {news : Led} {x : Int} {t : Tok} :
    Call w mean mg mb 1042 1 [.int x t] news (fun r n => IsI (sjF x) r ∧ n = news) := by
  refine Call.of (fo1042 _) (co1042 _) (binds := [("imm", .int x t)]) (by kernel_rfl) ?_
  intro dp un gd outer A₀ base g L s Q E S hd hu ret
  have nm := fun p => PV.nameI (prog := pr) (w := w) (A := ktrTop dp un gd (Str.ofString "spread_jump") scF27 L 1042 (Value.ref 1041) [] outer) (cn := "spread_jump") (cs := scF27) (a := 1042) (ccd := .ref 1041) (cl := []) (x := "imm") (pos := p) (i := x) (t := t) S.F rfl
  refine st_return (P := IsI (sjF x)) (.or_ (.or_ (.or_ (.shl_and (.and_ (.shr (nm _) (.const 20 _ _)) (.const 1 _ _)) (.const 31 _ _)) (.shl_and (.and_ (.shr (nm _) (.const 1 _ _)) (.const 1023 _ _)) (.const 21 _ _))) (.shl_and (.and_ (.shr (nm _) (.const 11 _ _)) (.const 1 _ _)) (.const 20 _ _))) (.shl_and (.and_ (.shr (nm _) (.const 12 _ _)) (.const 255 _ _)) (.const 12 _ _))) ?_
  intro v tk' hv
  exact ret _ v _ _ _ _ ⟨hv, rfl⟩ (.inl rfl) S.F S.N
end Mine
end
section
open PySem PySem.W PyProof.Rows PySem.Calls
set_option maxHeartbeats 400000
namespace Mine
theorem st_attr {w : World} {A : Around} {g : Heap} {L f : Addr} {cn : Str} {cs : Scope} {ccd : Value} {cl : List (Str × Addr)} {m : Str → Option Value} {news : Led} {s : Shared} {rest : List Stmt} {Q : Flow → Shared → Prop} {E : Value → Shared → Prop} {pos np ap : Pos} {y attr : Str} {e : Expr} {P : Value → Prop}
    {C x dx : Addr} {es : List DictEntry} {n : Nat} (F : Fr g L s.heap m) (X : (K0 w.params).In g) (N : News g L s.heap ((x, instObj C dx) :: (dx, dictOf es n) :: news)) (hlt : ∀ p ∈ news, p.1 < dx) (hx : dx < x) (pv : PV pr w A (envX cn cs L f ccd cl) s.heap e P) (hy : m y = some (.ref x))
    (hs : findIn (K0 w.params) (.ref C) "__setattr__" = some (some (.builtin "object.__setattr__"))) (hp : plainOver (K0 w.params) C = true) (ht : takerIn (K0 w.params) C attr = some none) (hh : hasDictIn (K0 w.params) C = true) (hl : (getL attr es).isSome = true)
    (hz : es.length.ble 100 = true)
    (k : ∀ v t h' tk, P v → Fr g L h' m → News g L h' ((x, instObj C dx) :: (dx, dictOf (putL attr (PyData.keyHash w.params attr) (.str attr t) v es) (putN attr es n)) :: news) → wpAny (model pr w) A (execs rest (envX cn cs L f ccd cl)) Q E { s with heap := h', toks := tk })
    (hk : cs.kind = .function := by rfl) (hyk : (envX cn cs L f ccd cl).kindOf y = some .local := by rfl) (hd : (y == ("__debug__" : Str)) = false := by decide) (hsw : swapsWith e (some (.Attribute (.Name y np) attr ap)) pos.line (envX cn cs L f ccd cl) = pure false := by rfl) :
    wpAny (model pr w) A (execs (.Assign [.Attribute (.Name y np) attr ap] e pos :: rest) (envX cn cs L f ccd cl)) Q E s := by
  refine wpAny_execs_cons (plainObj_wpAny_Assign_Attribute (pv.use fun v tk hv => ?_) hsw)
  refine nameX_L (s := { s with toks := tk }) F hy ?_ hk hyk hd
  have hlen : (putL attr (PyData.keyHash w.params attr) (.str attr (tk + 1)) v es).length ≤ 1000 := by
    have : ∀ es : List DictEntry, (putL attr (PyData.keyHash w.params attr) (.str attr (tk + 1)) v es).length ≤ es.length + 1 := by
      intro es
      induction es with
      | nil => simp [putL]
      | cons e r ih => unfold putL; split <;> simp <;> omega
    have := this es
    have hz := Nat.le_of_ble_eq_true hz
    omega
  refine set_dict (s := { s with toks := tk }) (dx := dx) (C := C) F X N (.of_news N (.head _) (.tail _ (.head _))) rfl hs hp ht hh hl rfl (.tail (Nat.ne_of_gt hx) (.head fun p hp => Nat.ne_of_lt (hlt p hp))) hlen fun h' F' N' => ?_
  exact k v _ h' _ hv F' N'
structure Fields (es : List DictEntry) (nm : Str) (rd rs1 rs2 imm csr : Int) : Prop where
  name : ∃ t, getL "name" es = some (some (.str nm t))
  rd : ∃ t, getL "rd" es = some (some (.int rd t))
  rs1 : ∃ t, getL "rs1" es = some (some (.int rs1 t))
  rs2 : ∃ t, getL "rs2" es = some (some (.int rs2 t))
  imm : ∃ t, getL "imm" es = some (some (.int imm t))
  csr : ∃ t, getL "csr" es = some (some (.int csr t))
noncomputable def MadeI (news : Led) (nm : Str) (rd rs1 rs2 imm csr : Int) : Value → Led → Prop := fun r n =>
  ∃ x dx es, r = .ref x ∧ n = (x, instObj 98 dx) :: (dx, dictOf es 6) :: news ∧ Fields es nm rd rs1 rs2 imm csr ∧ (∀ p ∈ news, p.1 < dx) ∧ dx < x
theorem weight_cls (C : Addr) (vs : List Value) (kw : List (Str × Value)) : Code.weight (.builtin "type.__call__" ⟨.ref C :: vs, kw⟩) = 1 := by kernel_rfl
theorem room_cls {dp d : Nat} {C : Addr} {vs : List Value} {kw : List (Str × Value)} (hd : dp + d ≤ 900) : dp + Code.weight (.builtin "type.__call__" ⟨.ref C :: vs, kw⟩) < recursionLimit := by
  rw [weight_cls]
  simp only [recursionLimit]
  omega
theorem mkI {w : World} {mean : ExcName → Option Value} {mg mb : Str → Option Value} {news : Led} {vs : List Value} {nm : Str} {rd rs1 rs2 imm csr : Int} {t0 t1 t2 t3 t4 t5 : Tok}
    (hb : ∀ (x : Addr) (s : Shared), (K0 w.params).In s.heap → BindsTo s (fnOf "__init__" "Instruction.__init__" psM17M0 bdM17M0 scM17M0 (.ref 81) .none .none (.str "pipeboard.isa" 265) none (.ref 87) .none) ⟨.ref x :: vs, []⟩ [("self", .ref x), ("name", .str nm t0), ("rd", .int rd t1), ("rs1", .int rs1 t2), ("rs2", .int rs2 t3), ("imm", .int imm t4), ("csr", .int csr t5)]) :
    Call w mean mg mb 98 2 vs news (MadeI news nm rd rs1 rs2 imm csr) := by
  intro dp un gd cn cs a ccd cl outer A₀ base g L m s Q E S hk hd hu ret
  refine call_cls (K := K0 w.params) (C := 98) (fI := 88) S.F S.X S.N (by kernel_rfl) (by kernel_rfl) (by kernel_rfl) fun x dx h' F1 N1 hlt hx => ?_
  refine code_def S.B F1 S.X N1 S.T rfl rfl hk (fo88 _) (co88 _) (room_cls hd) (hb x _ (S.X.keeps F1.keep)) (locs (by kernel_rfl)) (fun g' L' h₁ FG F' N' B' X' T' => ?_) (by rfl) (by rfl) (by rfl) (by decide)
  have nmv := fun (A : Around) (h : Heap) (m : Str → Option Value) (F : Fr g' L' h m) (y : Str) (p : Pos) (v : Value) (e : m y = some v) hx hd => PV.name (prog := pr) (w := w) (A := A) (cn := "Instruction.__init__") (cs := scM17M0) (L := L') (a := 88) (ccd := .ref 87) (cl := []) (x := y) (pos := p) (P := (· = v)) F e rfl rfl hx hd
  refine st_attr (C := 98) F' X' N' hlt hx (nmv _ _ _ F' "name" _ _ rfl rfl (by decide)) rfl (by kernel_rfl) (by kernel_rfl) (by kernel_rfl) (by kernel_rfl) (by rfl) (by rfl) ?_
  intro v k1 h1 tk1 hv F1 N1
  subst hv
  refine st_attr (C := 98) F1 X' N1 hlt hx (nmv _ _ _ F1 "rd" _ _ rfl rfl (by decide)) rfl (by kernel_rfl) (by kernel_rfl) (by kernel_rfl) (by kernel_rfl) (by rfl) (by rfl) ?_
  intro v k2 h2 tk2 hv F2 N2
  subst hv
  refine st_attr (C := 98) F2 X' N2 hlt hx (nmv _ _ _ F2 "rs1" _ _ rfl rfl (by decide)) rfl (by kernel_rfl) (by kernel_rfl) (by kernel_rfl) (by kernel_rfl) (by rfl) (by rfl) ?_
  intro v k3 h3 tk3 hv F3 N3
  subst hv
  refine st_attr (C := 98) F3 X' N3 hlt hx (nmv _ _ _ F3 "rs2" _ _ rfl rfl (by decide)) rfl (by kernel_rfl) (by kernel_rfl) (by kernel_rfl) (by kernel_rfl) (by rfl) (by rfl) ?_
  intro v k4 h4 tk4 hv F4 N4
  subst hv
  refine st_attr (C := 98) F4 X' N4 hlt hx (nmv _ _ _ F4 "imm" _ _ rfl rfl (by decide)) rfl (by kernel_rfl) (by kernel_rfl) (by kernel_rfl) (by kernel_rfl) (by rfl) (by rfl) ?_
  intro v k5 h5 tk5 hv F5 N5
  subst hv
  refine st_attr (C := 98) F5 X' N5 hlt hx (nmv _ _ _ F5 "csr" _ _ rfl rfl (by decide)) rfl (by kernel_rfl) (by kernel_rfl) (by kernel_rfl) (by kernel_rfl) (by rfl) (by rfl) ?_
  intro v k6 h6 tk6 hv F6 N6
  subst hv
  refine nextStep ?_
  refine ⟨L', _, _, F6, N6, fun F7 N7 => ⟨rfl, ret _ _ _ _ ⟨x, dx, _, rfl, rfl, ⟨⟨_, rfl⟩, ⟨_, rfl⟩, ⟨_, rfl⟩, ⟨_, rfl⟩, ⟨_, rfl⟩, ⟨_, rfl⟩⟩, hlt, hx⟩ F7 N7⟩⟩
end Mine
end
section
open PySem PySem.W PyProof.Rows PySem.Calls
open Sem (wp)
set_option maxHeartbeats 1000000
namespace Mine
noncomputable abbrev bmV : List Value := [.type "ValueError", .type "Exception", .type "BaseException", .type "object"]
noncomputable abbrev bmBI : List Value := .ref 39 :: bmV
section
variable {M : Model} {A : Around} {E : Value → Shared → Prop} {h : Heap} {g : Array GenState} {d : Drawn} {t : Nat} {os : OsState}
variable {nm q : Str} {C N : Addr} {bs : List Value} {hdct : Bool} {sn : List Str} {sub : List Value} {ab : Bool} {col : Option Bool} {dd : Option Addr} {k0 k1 k2 k3 k5 : Option Value}
theorem check_new_BI {rest : List Value} {Q : Unit → Shared → Prop} (hC : h.get? C = some (excClassObj nm q C N bs bmBI hdct sn sub ab col dd k0 k1 k2 k3 k5 "ValueError.__new__"))
    (hq : Q () ⟨h, g, d, t, os⟩) : wpAny M A (checkBuiltinCall "ValueError.__new__" ⟨.ref C :: rest, []⟩) Q E ⟨h, g, d, t, os⟩ := by
  have F := PySem.F.excBase_ValueError
  have hcont : (Value.ref C :: bmBI).contains (.type "ValueError") = true := by rw [List.contains_cons]; simp [bmBI, bmV]
  have hstar := F.noStar
  simp only [checkBuiltinCall, F.newKind, F.newSplit, F.newRow]
  repeat (first | refine wpAny_loadPart_at hC ?_ | (refine wpAny_isSubtype_exc hC ?_; rw [hcont]) | refine wpAny_staticBase_exc hC ?_ | refine wpAny_madeBy_exc hC ?_ | simp only [bne_self_eq_false, Bool.false_eq_true, if_false] | wp_step)
  exact hq
end
section
variable {prog : Program} {w : World} {A : Around} {R : Result → Shared → Prop} {E : Value → Shared → Prop} {h : Heap} {g : Array GenState} {d : Drawn} {t : Nat} {os : OsState}
variable {nm q : Str} {C N : Addr} {bs : List Value} {hdct : Bool} {sn : List Str} {sub : List Value} {ab : Bool} {col : Option Bool} {dd : Option Addr} {k0 k1 k2 k3 k5 : Option Value}
theorem exc_new_BI {rest : List Value} (hC : h.get? C = some (excClassObj nm q C N bs bmBI hdct sn sub ab col dd k0 k1 k2 k3 k5 "ValueError.__new__"))
    (hq : R (.ok (.ret (.ref (h.objs.size + 1)))) ⟨(h.push { cls := .type "tuple", data := .seq rest.toArray }).push
      { cls := .ref C, data := .fields #[.ref h.objs.size, .none, .none, .none, .bool false, .none] }, g, d, t, os⟩) (hrest : rest.length ≤ sizeLine := by size_fits) :
    codeAny (model prog w) A (.builtin "ValueError.__new__" ⟨.ref C :: rest, []⟩) R ⟨h, g, d, t, os⟩ := by
  have F := PySem.F.excBase_ValueError
  have hends := F.ends
  have hcB : (Value.ref C :: bmBI).contains (.type "ValueError") = true := by rw [List.contains_cons]; simp [bmBI, bmV]
  have hcA : (Value.ref C :: bmBI).contains (.type "AttributeError") = false := by rw [List.contains_cons]; simp [bmBI, bmV]
  have hcN : (Value.ref C :: bmBI).contains (.type "NameError") = false := by rw [List.contains_cons]; simp [bmBI, bmV]
  refine PySem.codeAny_builtinAt F.entry ?_
  unfold Builtin.«BaseException.__new__»
  refine PySem.wpAt_bind ?_
  show PySem.wpAt _ _ _ (stack >>= _) _ _ _
  refine PySem.wpAt_bind (PySem.wpAt_stack fun p below => PySem.wpAt_of_wpAny ?_)
  wp_walk
  refine PySem.wpAt_of_wpAny ?_
  rw [F.owner]
  repeat (first | with_reducible refine wpAny_madeHere_exc F.canon hC ?_ | with_reducible refine wpAny_loadPart_at hC ?_ | (with_reducible refine wpAny_isSubtype_exc hC ?_; first | rw [hcB] | rw [hcA] | rw [hcN]) | wp_step)
  show R _ _
  rw [Heap.size_push]
  exact hq
theorem type_call_BI {mN : Str → Option Value} {rest : List Value} {fI : Addr} {oI : Obj} {Q : Fin → Shared → Prop}
    (hC : h.get? C = some (excClassObj nm q C N bs bmBI hdct sn sub ab col dd k0 k1 k2 k3 k5 "ValueError.__new__")) (hn : h.Ns N mN) (hi : mN "__init__" = some (.ref fI))
    (hfI : h.get? fI = some oI) (hfc : oI.cls = .type "function")
    (hq : ∀ h' e, Heap.MadeExcOf h h' e (.ref C) rest →
      wpAny (model prog w) A (call (.ref fI) (.ref e :: rest)) (fun r s' => r = .none ∧ Q (.done (.ret (.ref e))) s') E ⟨h', g, d, t, os⟩) (hrest : rest.length ≤ sizeLine := by size_fits) :
    wpAny (model prog w) A (Builtin.«type.__call__» ⟨.ref C :: rest, []⟩) Q E ⟨h, g, d, t, os⟩ := by
  have F := PySem.F.excBase_ValueError
  repeat (first | with_reducible refine wpAny_loadPart_at hC ?_ | with_reducible refine wpAny_madeBy_exc hC ?_ | wp_step)
  refine codeAny_call_builtin_code (Code.quiet_builtin _ F.quiet) (check_new_BI hC ?_)
  refine exc_new_BI hC ?_ hrest
  show wpAny _ _ _ _ _ _
  have hC₁ := Heap.get?_push_of_some { cls := .ref C, data := .fields #[.ref h.objs.size, .none, .none, .none, .bool false, .none] }
    (Heap.get?_push_of_some { cls := .type "tuple", data := .seq rest.toArray } hC)
  have hfI₁ := Heap.get?_push_of_some { cls := .ref C, data := .fields #[.ref h.objs.size, .none, .none, .none, .bool false, .none] }
    (Heap.get?_push_of_some { cls := .type "tuple", data := .seq rest.toArray } hfI)
  have hn₁ : ((h.push { cls := .type "tuple", data := .seq rest.toArray }).push { cls := .ref C, data := .fields #[.ref h.objs.size, .none, .none, .none, .bool false, .none] }).Ns N mN :=
    let ⟨o, es, ep, e, r⟩ := hn; ⟨o, es, ep, Heap.get?_push_of_some _ (Heap.get?_push_of_some _ e), r⟩
  have hget : ((h.push { cls := .type "tuple", data := .seq rest.toArray }).push
      { cls := .ref C, data := .fields #[.ref h.objs.size, .none, .none, .none, .bool false, .none] }).get? (h.objs.size + 1) = some
      { cls := .ref C, data := .fields #[.ref h.objs.size, .none, .none, .none, .bool false, .none] } := by heap_get
  have hcC : (Value.ref C :: bmBI).contains (.ref C) = true := by simp
  unfold isInstance
  repeat (first | with_reducible refine wpAny_loadPart_at hget ?_ | (with_reducible refine wpAny_isSubtype_exc hC₁ ?_; rw [hcC]) | wp_step)
  show wpAny _ _ (typeLookup (.ref C) _) _ _ _
  rw [typeLookup_eq]
  refine wpAny_bind (wpAny_mroOf_exc hC₁ ?_)
  rw [lookupAlong_cons]
  refine wpAny_bind (wpAny_classOwn_exc hC₁ hn₁ ?_)
  rw [hi]
  refine wpAny_pure ?_
  refine wpAny_holding (wpAny_bind ?_)
  unfold bindSpecial
  refine wpAny_bind (wpAny_typeOf (T := "function") ⟨_, hfI₁, hfc⟩ ?_)
  rw [if_pos (by decide)]
  refine wpAny_pure (wpAny_bind (wpAny_mono (hq _ (h.objs.size + 1) ⟨fun b o hb => Heap.get?_push_of_some _ (Heap.get?_push_of_some _ hb), Heap.get?_none_of_le (Nat.le_succ _), h.objs.size, hget, Heap.get?_none_of_le (Nat.le_refl _), ?_⟩) (fun r s' hr => ?_) fun _ _ x => x))
  · exact Heap.get?_push_of_some _ (Heap.get?_push_at rfl rfl)
  · obtain ⟨rfl, hQ⟩ := hr
    wp_walk
    exact hQ
theorem call_BI {mN : Str → Option Value} {rest : List Value} {fI : Addr} {oI : Obj} {Q : Value → Shared → Prop}
    (hC : h.get? C = some (excClassObj nm q C N bs bmBI hdct sn sub ab col dd k0 k1 k2 k3 k5 "ValueError.__new__")) (hn : h.Ns N mN) (hi : mN "__init__" = some (.ref fI))
    (hfI : h.get? fI = some oI) (hfc : oI.cls = .type "function")
    (hq : ∀ h' e, Heap.MadeExcOf h h' e (.ref C) rest →
      wpAny (model prog w) (A.under (.builtin "type.__call__" ⟨.ref C :: rest, []⟩)) (call (.ref fI) (.ref e :: rest)) (fun r s' => r = .none ∧ Q (.ref e) s') E ⟨h', g, d, t, os⟩) (hrest : rest.length ≤ sizeLine := by size_fits) :
    wpAny (model prog w) A (call (.ref C) rest) Q E ⟨h, g, d, t, os⟩ := by
  have f1 := tc_lookup
  have f2 := tc_bind (.ref C)
  have hT : (⟨h, g, d, t, os⟩ : Shared).TypeIs (.ref C) "type" := ⟨_, hC, rfl⟩
  refine wpAny_call (codeAny_of_tree ?_)
  show wpAny _ _ (callAny (.ref C) _) _ _ _
  repeat (any_goals (first | assumption | with_reducible refine wpAny_loadPart_at hC ?_ | wp_step))
  refine ⟨rfl, ?_⟩
  refine codeAny_call_builtin_at (Code.quiet_builtin _ (by decide +kernel)) entry_typeCall (wpAny_check_type_call_sub hC (type_call_BI (hrest := hrest) hC hn hi hfI hfc fun h' e hm => ?_))
  exact hq h' e hm
end
theorem raiseStmt_own {M : Model} {A : Around} {E : Value → Shared → Prop} {env : Env} {nm q : Str} {C N : Addr} {bs bm : List Value} {hdct : Bool} {sn : List Str} {sub : List Value} {ab : Bool} {col : Option Bool} {dd : Option Addr} {k0 k1 k2 k3 k5 : Option Value} {newId : String}
    {s : Shared} {x : Sem Value} {Q : Flow → Shared → Prop} (hbase : bm.contains (.type "BaseException") = true) (hh : A.handled = none)
    (h : wpAny M A x (fun v s₁ => ∃ e oe, v = .ref e ∧ s₁.heap.get? C = some (excClassObj nm q C N bs bm hdct sn sub ab col dd k0 k1 k2 k3 k5 newId) ∧
      s₁.heap.get? e = some oe ∧ oe.cls = .ref C ∧ (∃ a0, oe.data = .fields #[a0, .none, .none, .none, .bool false, .none]) ∧ E (.ref e) s₁) E s) :
    wpAny M A (raiseStmt env (some x) none) Q E s := by
  have hcB : (Value.ref C :: bm).contains (.type "BaseException") = true := by rw [List.contains_cons, hbase, Bool.or_true]
  unfold raiseStmt
  refine wpAny_bind (wpAny_mono h (fun v s₁ h₁ => ?_) fun _ _ x => x)
  obtain ⟨e, oe, rfl, hC, he, hcls, ⟨a0, hfs⟩, hE⟩ := h₁
  obtain ⟨oc, od, oda, osl⟩ := oe
  dsimp only at hcls hfs
  subst hcls hfs
  obtain ⟨hp, g, d, tk, os⟩ := s₁
  repeat (first | with_reducible refine wpAny_loadPart_at he ?_ | with_reducible refine wpAny_loadPart_at hC ?_ | (with_reducible refine wpAny_isSubtype_exc hC ?_; rw [hcB]) | wp_step)
  exact wpAny_raiseNew_none hh hE
end Mine
end
section
open PySem PySem.W PyProof.Rows PySem.Calls
open Sem (wp)
open Builtin Builtin.ObjectAttr
set_option maxHeartbeats 1000000
namespace Mine
section
variable {w : World} {A : Around} {E : Value → Shared → Prop} {s : Shared} {x L : Addr} {h₀ : Heap} {m : Str → Option Value} {news : Led} {R : Result → Shared → Prop}
theorem cd71 (P : Params) : ∃ cd, clsIn (K0 P) 71 = some cd ∧ cd.mro = .ref 71 :: bmBI ∧ cd.hasDict = true := by
  have h : (clsIn (K0 P) 71).map (fun cd => (cd.mro, cd.hasDict)) = some (.ref 71 :: bmBI, true) := by kernel_rfl
  obtain ⟨cd, hc, he⟩ := Option.map_eq_some_iff.mp h
  obtain ⟨h1, h2⟩ := Prod.mk.inj he
  exact ⟨cd, hc, h1, h2⟩
theorem passBI (self : Value) : refuseLoop self "__setattr__" (.ref 71 :: bmBI) = pure () := by
  rw [refuseLoop_ref, refuseLoop_ref]
  exact PySem.F.store_ValueError.passes self
theorem osa_exc {ox : Obj} {od : Option Obj} {name : Str} {tk : Tok} {v : Value} (X : (K0 w.params).In s.heap) (I : InstAt s.heap x ox 71 od) (ha : findIn (K0 w.params) (.ref 71) name = some none)
    (h : ∀ b, wpAny (model pr w) A.in1 (storeInOwnDict (.ref x) (.ref 71) (.str name tk) name v b)
      (fun fin s' => match fin with | .done f => R (.ok f) s' | .again c' => c'.quiet = true ∧ codeAny (model pr w) A c' R s') (fun e s' => R (.error e) s') s) :
    codeAny (model pr w) A (.call (.builtin "object.__setattr__") ⟨[.ref x, .str name tk, v], []⟩) R s := by
  have SF := PySem.F.store_object
  obtain ⟨cd, hc, ho, -⟩ := cd71 w.params
  have sub : Looks (model pr w) s.heap (isInstance (.ref x) (.type "object")) true := I.type.andThen (looks_mroIn X (by kernel_rfl))
  refine codeAny_call_builtin SF.slot.plain SF.entry (@check_slot (model pr w) _ _ s "object.__setattr__" "object" "__setattr__" (.ref x) [.str name tk, v] [] _ SF.kind SF.split sub (SF.args (.ref x) (.str name tk) v) ?_)
  have hm : Looks (model pr w) s.heap (mroOf (.ref 71)) (.ref 71 :: bmBI) := by rw [← ho]; exact (looks_clsIn X hc).andThen .now
  rw [osa_eq, refuse_eq]
  refine wpAny_bind (wpAny_bind (I.type.here (wpAny_bind (hm.here ?_))))
  rw [passBI]
  refine wpAny_pure (wpAny_bind (I.type.here (wpAny_bind ((looks_findIn X ha).here (wpAny_bind (wpAny_pure ?_))))))
  exact h _
theorem storeL {name : Str} {tk : Tok} {v : Value} {dx : Addr} {es : List DictEntry} {n : Nat} {pre post : Led} {Q : Fin → Shared → Prop} (F : Fr h₀ L s.heap m) (N : News h₀ L s.heap (pre ++ (dx, dictOf es n) :: post)) (h1 : ∀ p ∈ pre, p.1 ≠ dx) (h2 : ∀ p ∈ post, p.1 ≠ dx)
    (hl : (getL name es).isSome = true) (hz : (putL name (PyData.keyHash w.params name) (.str name s.toks) v es).length ≤ 1000)
    (h : ∀ h', Fr h₀ L h' m → News h₀ L h' (pre ++ (dx, dictOf (putL name (PyData.keyHash w.params name) (.str name s.toks) v es) (putN name es n)) :: post) → Q (.done (.ret .none)) { s with heap := h', toks := s.toks + 1 }) :
    wpAny (model pr w) A (storeInDict dx (.str name tk) name v) Q E s := by
  obtain ⟨U1, U2⟩ := news_upd (f := Obj.putName name (PyData.keyHash w.params name) (.str name s.toks) v) (o' := dictOf (putL name (PyData.keyHash w.params name) (.str name s.toks) v es) (putN name es n)) F N h1 h2 (putName_dict _ _ _ _ _ _) rfl
  have D := (N (dx, dictOf es n) (by simp)).1
  have D' := (U2 (dx, dictOf (putL name (PyData.keyHash w.params name) (.str name s.toks) v es) (putN name es n)) (by simp)).1
  unfold storeInDict newKeyGuard
  refine wpAny_bind (wpAny_pure (wpAny_bind ?_))
  unfold nsSet
  refine wpAny_bind (wpAny_bind (wpAny_askSetting (wpAny_pure (wpAny_bind (wpAny_mkText (wpAny_bind (wpAny_loadPart D ?_)))))))
  dsimp only
  have c : (!es.toArray.any (·.key.isStr name) && es.toArray.any (·.refKey)) = false := by
    unfold getL at hl
    rw [← Array.any_toList, ← Array.any_toList]
    split at hl
    · rename_i en he
      rw [List.any_eq_true.mpr ⟨en, List.mem_of_find?_eq_some he, List.find?_some he⟩]; rfl
    · split at hl
      · cases hl
      · rename_i z; rw [Bool.not_eq_true] at z; rw [z, Bool.and_false]
  rw [aRefKeyMayBeTheName_at, c]
  refine wpAny_updatePart D ?_
  refine wpAny_bind (wpAny_lookBehind D' (pastItsLine_dict (by rw [List.size_toArray, sizeLine_eq]; omega)) ?_)
  exact wpAny_pure (h _ U1 U2)
theorem exc_first {name : Str} {tk : Tok} {v : Value} {fs : Array Value} {sl : Array (Option Value)} (F : Fr h₀ L s.heap m) (N : News h₀ L s.heap ((x, ⟨.ref 71, none, .fields fs, sl⟩) :: news)) (hlt : ∀ p ∈ news, p.1 ≠ x) (X : (K0 w.params).In s.heap)
    (ha : findIn (K0 w.params) (.ref 71) name = some none)
    (h : ∀ dx es h' tk', es.length ≤ 1 → (∀ y, (getL y es).isSome = true) → Fr h₀ L h' m → News h₀ L h' ((dx, dictOf es 1) :: (x, ⟨.ref 71, some dx, .fields fs, sl⟩) :: news) → dx ≠ x → (∀ p ∈ news, p.1 ≠ dx) → R (.ok (.ret .none)) { s with heap := h', toks := tk' }) :
    codeAny (model pr w) A (.call (.builtin "object.__setattr__") ⟨[.ref x, .str name tk, v], []⟩) R s := by
  have hx := (N _ (.head _)).1
  refine osa_exc X (ox := ⟨.ref 71, none, .fields fs, sl⟩) (od := none) ⟨hx, rfl, rfl, trivial⟩ ha fun b => ?_
  obtain ⟨cd, hc, -, hd'⟩ := cd71 w.params
  refine wpAny_bind (wpAny_pure (wpAny_bind (wpAny_bind (wpAny_loadPart hx (wpAny_bind ((looks_clsIn X hc).here ?_))))))
  rw [hd', if_neg (by decide)]
  dsimp only
  rw [if_neg (by decide)]
  have F1 := F.push emptyDict
  have N1 := N.push F emptyDict
  have hx1 : x ≠ s.heap.objs.size := Nat.ne_of_lt (Heap.lt_size hx)
  have hn1 : ∀ p ∈ news, p.1 ≠ s.heap.objs.size := fun p hp => Nat.ne_of_lt (Heap.lt_size (N p (.tail _ hp)).1)
  obtain ⟨U1, U2⟩ := news_upd (f := fun o => { cls := o.cls, dict := some s.heap.objs.size, data := o.data, slots := o.slots }) (o' := ⟨.ref 71, some s.heap.objs.size, .fields fs, sl⟩) (pre := [(s.heap.objs.size, emptyDict)]) F1 N1 (fun p hp => by
    rcases List.mem_cons.mp hp with rfl | hp
    · exact hx1.symm
    · cases hp) hlt rfl rfl
  refine wpAny_bind (wpAny_alloc ?_)
  refine wpAny_bind (wpAny_update (Heap.get?_push_of_some _ hx) ?_)
  refine wpAny_pure ?_
  refine storeL (pre := []) (es := []) (n := 0) U1 U2 (fun p hp => by cases hp) (fun p hp => by
    rcases List.mem_cons.mp hp with rfl | hp
    · exact hx1
    · exact hn1 p hp) rfl (by simp [putL]) fun h' F2 N2 => ?_
  refine h _ _ h' _ (by simp [putL]) (fun y => ?_) F2 N2 hx1.symm hn1
  show (getL y [_]).isSome = true
  unfold getL
  simp only [List.find?_cons, List.find?_nil]
  split
  · rfl
  · rfl
theorem exc_next {name : Str} {tk : Tok} {v : Value} {fs : Array Value} {sl : Array (Option Value)} {dx : Addr} {es : List DictEntry} {n : Nat} (F : Fr h₀ L s.heap m) (N : News h₀ L s.heap ((dx, dictOf es n) :: (x, ⟨.ref 71, some dx, .fields fs, sl⟩) :: news)) (hlt : ∀ p ∈ news, p.1 ≠ dx) (hne : dx ≠ x) (X : (K0 w.params).In s.heap)
    (ha : findIn (K0 w.params) (.ref 71) name = some none) (hl : (getL name es).isSome = true) (hz : (putL name (PyData.keyHash w.params name) (.str name s.toks) v es).length ≤ 1000)
    (h : ∀ es' n' h' tk', Fr h₀ L h' m → News h₀ L h' ((dx, dictOf es' n') :: (x, ⟨.ref 71, some dx, .fields fs, sl⟩) :: news) → R (.ok (.ret .none)) { s with heap := h', toks := tk' }) :
    codeAny (model pr w) A (.call (.builtin "object.__setattr__") ⟨[.ref x, .str name tk, v], []⟩) R s := by
  have hx := (N _ (.tail _ (.head _))).1
  have hdx := (N _ (.head _)).1
  refine osa_exc X (ox := ⟨.ref 71, some dx, .fields fs, sl⟩) (od := some (dictOf es n)) ⟨hx, rfl, rfl, hdx⟩ ha fun b => ?_
  obtain ⟨cd, hc, -, hd'⟩ := cd71 w.params
  refine wpAny_bind (wpAny_pure (wpAny_bind (wpAny_bind (wpAny_loadPart hx (wpAny_bind ((looks_clsIn X hc).here ?_))))))
  rw [hd', if_neg (by decide)]
  dsimp only
  refine wpAny_pure ?_
  refine storeL (pre := []) F N (fun p hp => by cases hp) (fun p hp => by
    rcases List.mem_cons.mp hp with rfl | hp
    · exact hne.symm
    · exact hlt p hp) hl hz fun h' F2 N2 => ?_
  exact h _ _ h' _ F2 N2
end
end Mine
end
section
open PySem PySem.W PyProof.Rows PySem.Calls
open Sem (wp)
set_option maxHeartbeats 1000000
namespace Mine
theorem cls71 {w : World} {h : Heap} (X : (K0 w.params).In h) : ∃ nm q N bs hdct sn sub ab col dd k0 k1 k2 k3 k5, h.get? 71 = some (excClassObj nm q 71 N bs bmBI hdct sn sub ab col dd k0 k1 k2 k3 k5 "ValueError.__new__") ∧ N = 70 :=
  ⟨_, _, _, _, _, _, _, _, _, _, _, _, _, _, _, X 71 _ (by kernel_rfl : (K0 w.params).lookup 71 = some (excClassObj "BadInstruction" "BadInstruction" 71 70 [.ref 39] bmBI true [] [] false none none (some (.ref 55)) none (some (.str "BadInstruction" 240)) (some (.str "BadInstruction" 248)) (some (.bool true)) "ValueError.__new__")), rfl⟩
section
variable {w : World} {A : Around} {E : Value → Shared → Prop} {s : Shared} {x L : Addr} {h₀ : Heap} {m : Str → Option Value} {news : Led}
theorem check_init_BI {M : Model} {nm q : Str} {C N : Addr} {bs : List Value} {hdct : Bool} {sn : List Str} {sub : List Value} {ab : Bool} {col : Option Bool} {dd : Option Addr} {k0 k1 k2 k3 k5 : Option Value} {h : Heap} {g : Array GenState} {d : Drawn} {t : Nat} {os : OsState} {e : Addr} {oe : Obj} {rest : List Value} {Q : Unit → Shared → Prop}
    (hC : h.get? C = some (excClassObj nm q C N bs bmBI hdct sn sub ab col dd k0 k1 k2 k3 k5 "ValueError.__new__")) (he : h.get? e = some oe) (hcls : oe.cls = .ref C) (hq : Q () ⟨h, g, d, t, os⟩) :
    wpAny M A (checkBuiltinCall "ValueError.__init__" ⟨.ref e :: rest, []⟩) Q E ⟨h, g, d, t, os⟩ := by
  have F := PySem.F.excBase_ValueError
  have hcB : (Value.ref C :: bmBI).contains (.type "ValueError") = true := by rw [List.contains_cons]; simp [bmBI, bmV]
  have hshort := F.noStar
  simp only [checkBuiltinCall, F.initKind, F.initSplit, F.initRow]
  repeat (first | (with_reducible refine wpAny_loadPart_at he ?_; rw [hcls]) | with_reducible refine wpAny_loadPart_at hC ?_ | (with_reducible refine wpAny_isSubtype_exc hC ?_; rw [hcB]) | wp_step)
  refine wpAny_onRaise ?_
  rw [show ∀ (a b : String) (n : Nat), Bind.check ⟨.positional, "*", "ValueError", .self, [⟨"args", .varPos, false⟩]⟩ a b n (List.map (fun x => x.fst) ({ pos := Value.ref e :: rest } : Args).kw) = pure () from
    fun a b n => check_star_args _ _ _ _ _ _]
  exact wpAny_pure hq
theorem init_VE {v : Value} {t0 : Addr} {sl : Array (Option Value)} {Q : Value → Shared → Prop} (F : Fr h₀ L s.heap m) (N : News h₀ L s.heap ((x, ⟨.ref 71, none, .fields #[.ref t0, .none, .none, .none, .bool false, .none], sl⟩) :: news)) (hlt : ∀ p ∈ news, p.1 ≠ x) (X : (K0 w.params).In s.heap)
    (h : ∀ t h' tk', Fr h₀ L h' m → News h₀ L h' ((t, ⟨.type "tuple", none, .seq #[v] 0, #[]⟩) :: (x, ⟨.ref 71, none, .fields #[.ref t, .none, .none, .none, .bool false, .none], sl⟩) :: news) → (∀ p ∈ news, p.1 ≠ t) → t ≠ x → Q .none { s with heap := h', toks := tk' }) :
    wpAny (model pr w) A (call (.builtin "ValueError.__init__") [.ref x, v]) Q E s := by
  have B := PySem.F.excBase_ValueError
  have hx := (N _ (.head _)).1
  obtain ⟨nm, q, Nn, bs, hdct, sn, sub, ab, col, dd, k0, k1, k2, k3, k5, hC, -⟩ := cls71 X
  obtain ⟨hp, g, d, tk, os⟩ := s
  refine wpAny_call (codeAny_call_builtin B.init.plain B.initEntry (check_init_BI hC hx rfl ?_))
  unfold Builtin.«BaseException.__init__»
  wp_walk
  have F1 := Fr.push F (⟨.type "tuple", none, .seq #[v] 0, #[]⟩ : Obj)
  have N1 := N.push F (⟨.type "tuple", none, .seq #[v] 0, #[]⟩ : Obj)
  have hx1 : x ≠ hp.objs.size := Nat.ne_of_lt (Heap.lt_size hx)
  have hn1 : ∀ p ∈ news, p.1 ≠ hp.objs.size := fun p hp' => Nat.ne_of_lt (Heap.lt_size (N p (.tail _ hp')).1)
  obtain ⟨U1, U2⟩ := news_upd (f := Obj.mapFields fun x => x.setIfInBounds 0 (Value.ref hp.objs.size)) (o' := ⟨.ref 71, none, .fields #[.ref hp.objs.size, .none, .none, .none, .bool false, .none], sl⟩) (pre := [(hp.objs.size, ⟨.type "tuple", none, .seq #[v] 0, #[]⟩)]) F1 N1 (fun p hp => by
    rcases List.mem_cons.mp hp with rfl | hp
    · exact hx1.symm
    · cases hp) hlt rfl rfl
  exact h _ _ _ U1 U2 hn1 hx1.symm
end
end Mine
end
section
open PySem PySem.W PyProof.Rows PySem.Calls
open Sem (wp)
open Builtin Float
set_option maxHeartbeats 1000000
namespace Mine
theorem dc16 : ∀ (k fuel n : Nat) (ds : List Char), n < 16 ^ (k + 1) → (Nat.toDigitsCore 16 fuel n ds).length ≤ ds.length + k + 1
  | _, 0, n, ds, _ => by simp [Nat.toDigitsCore]; try omega
  | 0, fuel + 1, n, ds, h => by
    have : n / 16 = 0 := by omega
    simp [Nat.toDigitsCore, this]
  | k + 1, fuel + 1, n, ds, h => by
    unfold Nat.toDigitsCore
    by_cases e : n / 16 = 0
    · simp [e]; try omega
    · simp only [e, if_false]
      have := dc16 k fuel (n / 16) (Nat.digitChar (n % 16) :: ds) (by rw [Nat.pow_succ] at h; omega)
      simp only [List.length_cons] at this
      omega
noncomputable def fs08 : FormatSpec := { fill := 48, align := 61, width := some 8, type := some 120 }
theorem parse08 : parseFormatSpec (Str.ofString "08x").cps.toList "int" 62 = .ok fs08 := by kernel_rfl
theorem len08 (n : Nat) (h : n < 2 ^ 33) (neg : Bool) : (intField' fs08 neg [] ((Nat.toDigits 16 n).map fun c => (if (120 : Nat) == 88 then c.toUpper else c).toNat) [] 4).length ≤ 100 := by
  have hd : (Nat.toDigits 16 n).length ≤ 9 := by
    have := dc16 8 (n + 1) n [] (by simp at h ⊢; omega)
    simpa [Nat.toDigits] using this
  have hn : (intField' fs08 neg [] ((Nat.toDigits 16 n).map fun c => (if (120 : Nat) == 88 then c.toUpper else c).toNat) [] 4).length = (intField' fs08 neg [] ((Nat.toDigits 16 n).map fun c => (if (120 : Nat) == 88 then c.toUpper else c).toNat) [] 4).cps.size := rfl
  rw [hn]
  unfold intField'
  simp only [fs08]
  cases neg <;> simp <;> omega
theorem wp_eq {M : PySem.Model} {A : Around} {α : Type} {x y : Sem α} {Q : α → Shared → Prop} {E : Value → Shared → Prop} {s : Shared} (e : x = y) (h : wpAny M A y Q E s) : wpAny M A x Q E s := e ▸ h
theorem fmt08 {w : World} {A : Around} {E : Value → Shared → Prop} {s : Shared} {a : Int} {t : Tok} {Q : Value → Shared → Prop} (ha : a.natAbs < 2 ^ 33)
    (h : ∀ y t' k, y.length ≤ 100 → Q (.str y t') { s with toks := k }) : wpAny (model pr w) A (formatField (.int a t) (Str.ofString "08x")) Q E s := by
  show wpAny _ _ (holding [.int a t] (pyFormat (.int a t) (Str.ofString "08x"))) Q E s
  refine wpAny_holding ?_
  unfold pyFormat
  refine wpAny_bind (wpAny_mkStr ?_ (by decide))
  refine wpAny_bind (m := callSpecial? (.int a t) (Str.ofString "__format__") [.str (Str.ofString "08x") s.toks]) (wpAny_callSpecial?_slot (name := Str.ofString "__format__") (typeIs_int _ a t) F.slot_int_format ?_)
  refine wpAny_call (codeAny_call_builtin F.slot_int_format.plain F.entry_int_format (F.slot_int_format.check _ _ _ _ _ _ _ _ (typeIs_int _ a t) (args_int_format _ _) ?_))
  unfold Builtin.«int.__format__»
  simp only [selfAndOne, noKeywords, Int.intOfSelf, asInt?, asStr?, List.isEmpty_nil, if_true, pure_bind, bind_pure, bind_assoc, Bool.false_eq_true, if_false,
    show (Value.str (Str.ofString "08x") s.toks == Value.none) = false from rfl, show ((Str.ofString "08x").length == 0) = false by decide]
  refine wpAny_bind (wpAny_typeNameOf (T := "str") (typeIs_str _ _ _) (by decide) fun _ => ?_)
  rw [if_neg (by decide)]
  refine wpAny_bind (wpAny_typeNameOfCut_int ?_)
  simp only [parse08, show fs08.type = some 120 from rfl, Option.getD_some]
  rw [if_pos (by decide)]
  have hl := len08 a.natAbs ha (decide (a < 0))
  refine wp_eq (y := retStr (intField' fs08 (decide (a < 0)) [] ((Nat.toDigits 16 a.natAbs).map fun c => (if (120 : Nat) == 88 then c.toUpper else c).toNat) [] 4)) (by kernel_rfl) ?_
  unfold retStr
  refine wpAny_bind (wpAny_mkStr (wpAny_pure ?_) (by rw [sizeLine_eq]; omega))
  dsimp only
  refine wpAny_bind (wpAny_isInstance (typeIs_str _ _ _) isSubtype_str_str (wpAny_pure ?_))
  exact h _ _ _ hl
end Mine
end
section
open PySem PySem.W PyProof.Rows PySem.Calls
set_option maxHeartbeats 1000000
namespace Mine
noncomputable abbrev excO (od : Option Addr) (t : Addr) (sl : Array (Option Value)) : Obj := ⟨.ref 71, od, .fields #[.ref t, .none, .none, .none, .bool false, .none], sl⟩
theorem News.sub {h₀ h : Heap} {L : Addr} {l l' : Led} (N : News h₀ L h l) (e : ∀ p ∈ l', p ∈ l) : News h₀ L h l' := fun p hp => N p (e p hp)
theorem Call.ofB {w : World} {mean : ExcName → Option Value} {mg mb : Str → Option Value} {f : Addr} {d : Nat} {vs : List Value} {news : Led} {P : Value → Led → Prop}
    {name qual : Str} {ps : Arguments} {bd : List Stmt} {sc : Scope} {dV kV doc pm cdv ct oc : Value} {an od : Option Addr} {osl : Array (Option Value)} {binds : List (Str × Value)}
    (ho : (K0 w.params).lookup f = some ⟨oc, od, .func (fnOf name qual ps bd sc dV kV doc pm an cdv ct), osl⟩) (hcd : codeIn (K0 w.params) cdv qual = true)
    (hbind : ∀ s : Shared, (K0 w.params).In s.heap → BindsTo s (fnOf name qual ps bd sc dV kV doc pm an cdv ct) ⟨vs, []⟩ binds)
    (body : Body w mean mg mb f qual sc cdv bd d (fun y => binds.reverse.lookup y) news P)
    (hloc : (binds.all fun x => decide (sc.names.lookup x.1 = some .local)) = true := by kernel_rfl)
    (hco : sc.isCoroutine = false := by rfl) (hgen : sc.isGenerator = false := by rfl) (hks : sc.kind = .function := by rfl) (hcell : ∀ x ∈ sc.names, x.2 ≠ .cell := by decide) : Call w mean mg mb f (d + 1) vs news P := by
  intro dp un gd cn cs a ccd cl outer A₀ base g L m s Q E S hk hd hu ret
  refine wpAny_call (code_def S.B S.F S.X S.N S.T rfl rfl hk ho hcd (by show dp < recursionLimit; simp only [recursionLimit]; omega) (hbind s S.K) (locs hloc) (fun g' L' h₁ FG F' N' B' X' T' => ?_) hco hgen hks hcell)
  refine body (dp + 1) (un + 3) gd _ _ base g' L' _ _ _ ⟨B', F', X', N', T'⟩ (by omega) (by omega) fun fl r m' news' h' tk' hp hfl F2 N2 => ?_
  rcases hfl with rfl | ⟨rfl, rfl⟩ <;> exact ⟨L', m', news', F2, N2, fun F3 N3 => ret _ news' _ _ hp F3 N3⟩
noncomputable def ExcBack (x : Addr) (sl : Array (Option Value)) (rest : Led) (k : Nat) : Value → Led → Prop := fun r n => r = .none ∧ ∃ dx es t v n0, n = (dx, dictOf es n0) :: (x, excO (some dx) t sl) :: (t, ⟨.type "tuple", none, .seq #[v] 0, #[]⟩) :: rest ∧ (k = 1 → es.length ≤ 1) ∧ (k = 1 → ∀ y, (getL y es).isSome = true) ∧ dx ≠ x ∧ (∀ p ∈ rest, p.1 ≠ dx) ∧ t ≠ dx ∧ t ≠ x ∧ (∀ p ∈ rest, p.1 ≠ t)
theorem boardInit {w : World} {mean : ExcName → Option Value} {mg mb : Str → Option Value} {rest : Led} {x t0 : Addr} {r : Str} {t : Tok} {sl : Array (Option Value)} (hlt : ∀ p ∈ rest, p.1 ≠ x) :
    Call w mean mg mb 36 1 [.ref x, .str r t] ((x, excO none t0 sl) :: rest) (ExcBack x sl rest 1) := by
  refine Call.ofB (fo36 _) (co36 _) (binds := [("self", .ref x), ("reason", .str r t)]) (fun s X => binds_K (T := 29) (o := ⟨.type "tuple", none, .seq #[.str "" 208] 0, #[]⟩) (items := #[.str "" 208]) (n := 0) X rfl (by kernel_rfl) rfl rfl (by kernel_rfl)) ?_
  intro dp un gd outer A₀ base g L s Q E S hd hu ret
  refine wpAny_execs_cons (wpAny_Expr_any (methodCall_KW (nameX_B S.F S.X (topRead_of S.T) (v := .type "ValueError") (by kernel_rfl) PyProof.Rows.Boot.«ValueError» (by decide) ?_)))
  refine method_type (T := "ValueError") (K := K0 w.params) S.F S.X (v := .builtin "ValueError.__init__") (by kernel_rfl) (by kernel_rfl) (by kernel_rfl) (by kernel_rfl) ?_
  show wpAny _ _ (callWith _ (.builtin "ValueError.__init__") [] (backTo _ (starEach [_, _] _)) []) _ _ _
  refine PyProof.Rows.callWith_builtin1 ?_
  refine spliced_more (nameX_L (v := .ref x) S.F rfl ?_)
  refine spliced_more (nameX_L (v := .str r t) S.F rfl ?_)
  refine spliced_none ?_
  refine init_VE S.F S.N hlt S.K fun t1 h1 tk1 F1 N1 hn1 hne => ?_
  have N1' : News g L h1 ((x, excO none t1 sl) :: (t1, ⟨.type "tuple", none, .seq #[.str r t] 0, #[]⟩) :: rest) := News.sub N1 fun p hp => by
    rcases List.mem_cons.mp hp with rfl | hp
    · exact .tail _ (.head _)
    · rcases List.mem_cons.mp hp with rfl | hp
      · exact .head _
      · exact .tail _ (.tail _ hp)
  refine wpAny_execs_cons (plainObj_wpAny_Assign_Attribute (nameX_L (v := .str r t) F1 rfl (nameX_L (v := .ref x) F1 rfl ?_)))
  refine set_plain (od := none) (S.X.keeps F1.keep) ⟨(N1' _ (.head _)).1, rfl, rfl, trivial⟩ (by kernel_rfl) ?_
  refine exc_first F1 N1' (fun p hp => ?_) (S.X.keeps F1.keep) (by kernel_rfl) fun dx es h2 tk2 hl hg F2 N2 hdx hn2 => ?_
  · rcases List.mem_cons.mp hp with rfl | hp
    · exact hne
    · exact hlt p hp
  · refine nextStep ?_
    exact ret _ .none _ _ _ _ ⟨rfl, dx, es, t1, _, _, rfl, fun _ => hl, fun _ => hg, hdx, fun p hp => hn2 p (.tail _ hp), hn2 _ (.head _), hne, hn1⟩ (.inr ⟨rfl, rfl⟩) F2 N2
theorem len_append (a b : Str) : (a ++ b).length = a.length + b.length := by
  obtain ⟨x⟩ := a
  obtain ⟨y⟩ := b
  show (x ++ y).size = _
  simp [Str.length]
theorem putL_len (nm : Str) (hs : Int) (k v : Value) : ∀ es : List DictEntry, (putL nm hs k v es).length ≤ es.length + 1
  | [] => by simp [putL]
  | e :: r => by
    have := putL_len nm hs k v r
    unfold putL
    split <;> simp <;> omega
theorem badInit {w : World} {mean : ExcName → Option Value} {mg mb : Str → Option Value} {rest : Led} {x t0 : Addr} {i : Int} {t : Tok} {sl : Array (Option Value)} (hlt : ∀ p ∈ rest, p.1 ≠ x) (hi : i.natAbs < 2 ^ 33) :
    Call w mean mg mb 68 2 [.ref x, .int i t] ((x, excO none t0 sl) :: rest) (ExcBack x sl rest 2) := by
  refine Call.of (fo68 _) (co68 _) (binds := [("self", .ref x), ("word", .int i t)]) (by kernel_rfl) ?_
  intro dp un gd outer A₀ base g L s Q E S hd hu ret
  refine wpAny_execs_cons (wpAny_Expr_any (methodCall_KW (nameX_K S.F S.X (topRead_of S.T) (v := .ref 39) (by kernel_rfl) ?_)))
  refine method_of_cls S.F S.X (by kernel_rfl) (cls_val (a := .ref 36) (mc := .type "type") S.F S.X (by kernel_rfl) (by kernel_rfl) (by kernel_rfl) (by kernel_rfl) ?_)
  show wpAny _ _ (callWith _ (.ref 36) [] (backTo _ (starEach [_, _] _)) []) _ _ _
  refine callWith_K (K := K0 w.params) S.X (by kernel_rfl) ?_
  refine spliced_more (nameX_L (v := .ref x) S.F rfl ?_)
  refine spliced_more ?_
  refine JoinedStr_many (joinParts_cons (wpAny_Constant_str ⟨by decide, joinParts_cons (wpAny_FormattedValue_spec (nameX_L (v := .int i t) S.F rfl (JoinedStr_one (wpAny_Constant_str ⟨_, _, rfl, fmt08 hi fun y t' k hy => ⟨?_, ?_⟩⟩))))⟩))
  · rw [len_append]
    show Str.length _ + _ ≤ _
    rw [sizeLine_eq, show (Str.empty ++ Str.ofString "no instruction: ").length = 16 by decide]
    omega
  refine joinParts_nil ?_ (by rw [len_append, sizeLine_eq, show (Str.empty ++ Str.ofString "no instruction: ").length = 16 by decide]; omega)
  refine spliced_none ⟨S.K, ?_⟩
  refine boardInit hlt dp un gd _ _ _ _ [] outer A₀ base g L _ _ _ _ ⟨S.B, S.F, S.X, S.N, S.T⟩ rfl (by omega) (by omega) fun r n h1 tk1 hr F1 N1 => ?_
  obtain ⟨rfl, dx, es, t1, v1, n0, rfl, hl, hg, hdx, hrd, htd, htx, hrt⟩ := hr
  refine wpAny_execs_cons (plainObj_wpAny_Assign_Attribute (nameX_L (v := .int i t) F1 rfl (nameX_L (v := .ref x) F1 rfl ?_)))
  refine set_plain (od := some (dictOf es n0)) (S.X.keeps F1.keep) ⟨(N1 _ (.tail _ (.head _))).1, rfl, rfl, (N1 _ (.head _)).1⟩ (by kernel_rfl) ?_
  refine exc_next F1 N1 (fun p hp => ?_) hdx (S.X.keeps F1.keep) (by kernel_rfl) (hg rfl _) ?_ fun es' n' h2 tk2 F2 N2 => ?_
  · rcases List.mem_cons.mp hp with rfl | hp
    · exact htd
    · exact hrd p hp
  · exact Nat.le_trans (putL_len _ _ _ _ es) (by have := hl rfl; omega)
  · refine nextStep ?_
    exact ret _ .none _ _ _ _ ⟨rfl, dx, es', t1, _, _, rfl, fun e => (by cases e), fun e => (by cases e), hdx, hrd, htd, htx, hrt⟩ (.inr ⟨rfl, rfl⟩) F2 N2
end Mine
end
section
open PySem PySem.W PyProof.Rows PySem.Calls PyProof.V PySem.Spec
set_option maxHeartbeats 1000000
namespace Mine
structure OwnExc (h h' : Heap) (e : Addr) (cls : Value) (t : Addr) (vs : List Value) : Prop where
  keeps : ∀ b o, h.get? b = some o → h'.get? b = some o
  new : h.get? e = none
  newT : h.get? t = none
  there : ∃ od sl, h'.get? e = some ⟨cls, od, .fields #[.ref t, .none, .none, .none, .bool false, .none], sl⟩
  tup : h'.TupAt t vs
theorem leaves_own {M : Model} {A : Around} {E : Value → Shared → Prop} {s : Shared} {base h : Heap} {env : Env} {outer : List Env} {L e t : Addr} {cls : Value} {args : List Value} {Q : Unit → Shared → Prop}
    (hfr : A.frames = some (env :: outer)) (hf : env.frame = some L) (hkb : base.StaysIn h) (hl : h.FunFrames base (env :: outer)) (hx : OwnExc h s.heap e cls t args)
    (hQ : ∀ h', Heap.FlyingW base outer e cls (.ref t) h' → h'.TupAt t args → base.get? t = none → s.heap.UpToSlots h' → Q () { s with heap := h' }) : wpAny M A (leaving env (.ref e)) Q E s := by
  obtain ⟨od, sl, he⟩ := hx.there
  have fresh : ∀ b, h.get? b = none → base.get? b = none := fun b hb => by
    cases hq : base.get? b with
    | none => rfl
    | some o' => have := hkb b o' hq; rw [hb] at this; cases this
  refine wpAny_leaving_firstW (a0 := .ref t) hfr (hl.of_keeps fun b o hb _ => ⟨o, hx.keeps b o hb, rfl⟩) hf he (fun b o hb => hx.keeps b o (hkb b o hb)) (fresh e hx.new) rfl rfl rfl fun h' hL => ?_
  obtain ⟨k1, ⟨_, _, k2⟩, k3, k4⟩ := hL
  exact hQ h' ⟨k1, fresh e hx.new, k2, k3⟩ (Heap.TupAt.of_slots hx.tup k4) (fresh t hx.newT) k4
theorem leave_own {M : Model} {A : Around} {E : Value → Shared → Prop} {s' : Shared} {base g h : Heap} {outer : List Env} {L a e t : Addr} {m : Str → Option Value} {name : Str} {scope : Scope} {cd : Value} {Q : Unit → Shared → Prop} {news : List (Addr × Obj)} {cls : Value} {vs : List Value}
    (K : Below A base outer g) (hx : OwnExc h s'.heap e cls t vs) (F : Fr g L h m) (N : News g L h news)
    (hQ : ∀ h', RaisedS base g outer e cls t vs news h' → g.UpToSlots h' → Q () { s' with heap := h' }) (hk : scope.kind = .function := by rfl) :
    wpAny M (A.deeper (envOf name scope L a cd)) (leaving (envOf name scope L a cd) (.ref e)) Q E s' := by
  have K' := K.push (name := name) (a := a) (cd := cd) F hk
  have hin : ∀ env ∈ (envOf name scope L a cd :: outer), ∀ b, env.frame = some b → b ∈ (envOf name scope L a cd :: outer).filterMap (·.frame) := fun env he b hb => List.mem_filterMap.mpr ⟨env, he, hb⟩
  have st : base.StaysIn (hideAll h ((envOf name scope L a cd :: outer).filterMap (·.frame))) := fun b o q => hideAll_get _ (K'.stays b o q) fun hm => by
    rw [(K'.frames.mem hm).1] at q; cases q
  have sg : ∀ b o, g.get? b = some o → b ∉ outer.filterMap (·.frame) → (hideAll h ((envOf name scope L a cd :: outer).filterMap (·.frame))).get? b = some o := fun b o q nm => hideAll_get _ (F.keep b o q) fun hm => by
    rcases kts_mem hm with z | z
    · rw [z, kts_self F] at q
      cases q
    · exact nm z
  have hl : ∀ q ∈ news, (hideAll h ((envOf name scope L a cd :: outer).filterMap (·.frame))).get? q.1 = some q.2 ∧ g.get? q.1 = none ∧ base.get? q.1 = none := fun q hq => by
    refine ⟨hideAll_get _ (N q hq).1 fun hm => ?_, (N q hq).2.2, fresh_of_stays K.stays (N q hq).2.2⟩
    obtain ⟨env, he, hf⟩ := List.mem_filterMap.mp hm
    rcases List.mem_cons.mp he with rfl | he
    · exact (N q hq).2.1 (Option.some.inj hf).symm
    · obtain ⟨o, ho, _⟩ := (K.frames.mem (List.mem_filterMap.mpr ⟨env, he, hf⟩)).2
      rw [(N q hq).2.2] at ho; cases ho
  exact leaves_own K'.stack rfl (fun b o q => of_hideAll _ q) (funFrames_hide K'.frames hin) hx fun h' x1 x2 x3 x4 =>
    hQ h' ⟨⟨_, st, sg, hl, x1, x3⟩, x2⟩ (((Heap.UpToSlots.of_keeps F.keep).trans (Heap.UpToSlots.of_keeps hx.keeps)).trans x4)
theorem own_hide {g h2 : Heap} {L e t : Addr} {m : Str → Option Value} {news : Led} {cls v : Value} {od : Option Addr} {sl : Array (Option Value)} (F : Fr g L h2 m) (N : News g L h2 news)
    (he : h2.get? e = some ⟨cls, od, .fields #[.ref t, .none, .none, .none, .bool false, .none], sl⟩) (ht : h2.get? t = some ⟨.type "tuple", none, .seq #[v] 0, #[]⟩) (ge : g.get? e = none) (gt : g.get? t = none) (Le : e ≠ L) (Lt : t ≠ L)
    (ne : ∀ p ∈ news, p.1 ≠ e) (nt : ∀ p ∈ news, p.1 ≠ t) : OwnExc (hideAll h2 [e, t]) h2 e cls t [v] ∧ Fr g L (hideAll h2 [e, t]) m ∧ News g L (hideAll h2 [e, t]) news := by
  have out : ∀ b, b ≠ e → b ≠ t → b ∉ [e, t] := fun b h1 h2 hm => by
    rcases List.mem_cons.mp hm with rfl | hm
    · exact h1 rfl
    · rcases List.mem_cons.mp hm with rfl | hm
      · exact h2 rfl
      · cases hm
  refine ⟨⟨fun b o q => of_hideAll _ q, hideAll_none _ (.head _), hideAll_none _ (.tail _ (.head _)), ⟨od, sl, he⟩, ⟨_, _, ht, rfl, rfl⟩⟩, ⟨?_, fun b o q => hideAll_get _ (F.keep b o q) (out b (fun z => by rw [z, ge] at q; cases q) fun z => by rw [z, gt] at q; cases q), F.above⟩, fun p hp => ⟨hideAll_get _ (N p hp).1 (out _ (ne p hp) (nt p hp)), (N p hp).2⟩⟩
  obtain ⟨oL, es, ep, hL, r⟩ := F.ns
  exact ⟨oL, es, ep, hideAll_get _ hL (out L Le.symm Lt.symm), r⟩
theorem ns_some_of {K : Frag} {h : Heap} {N : Addr} {mg : Str → Option Value} {n : Str} {v : Value} (X : K.In h) (G : h.Ns N mg) (e : nsIn K N n = some (some v)) : mg n = some v := by
  obtain ⟨o, es, ep, ho, hd, _, hf⟩ := G
  unfold nsIn at e
  split at e
  · rename_i c d es' n' sl q
    have := X _ _ q
    rw [ho] at this
    cases this
    cases hd
    split at e
    · rename_i en he
      rw [← hf]
      unfold nsFind findBy
      rw [← Array.find?_toList, he]
      cases e
      rfl
    · split at e <;> cases e
  · cases e
theorem units_cls (C : Addr) (vs : List Value) (kw : List (Str × Value)) : Code.cUnits (.builtin "type.__call__" ⟨.ref C :: vs, kw⟩) = 1 := by kernel_rfl
theorem raise_BI {w : World} {mean : ExcName → Option Value} {mg mb : Str → Option Value} {A₀ : Around} {base g : Heap} {outer : List Env} {L a : Addr} {m : Str → Option Value} {news : Led} {s : Shared} {dp un : Nat} {gd : Option (List Code)} {cn : Str} {cs : Scope} {ccd : Value} {np wp cpos pos : Pos} {i : Int} {t : Tok} {Q : Flow → Shared → Prop} {E : Value → Shared → Prop}
    (S : Sit w mean mg mb A₀ base outer g L m news s.heap) (hd : dp + 4 ≤ 900) (hu : un + 80 ≤ 9000) (hmw : m "word" = some (.int i t)) (hi : i.natAbs < 2 ^ 33)
    (hE : ∀ e h' tk' h t v, OwnExc h h' e (.ref 71) t [v] → Fr g L h m → News g L h news → E (.ref e) { s with heap := h', toks := tk' })
    (hk : cs.kind = .function := by rfl) (hx : (envX cn cs L a ccd []).kindOf "BadInstruction" = some .globalImplicit := by rfl) (hw : (envX cn cs L a ccd []).kindOf "word" = some .local := by rfl) :
    wpAny (model pr w) (ktrTop dp un gd cn cs L a ccd [] outer) (exec (.Raise (some (.Call (.Name "BadInstruction" np) [.Name "word" wp] [] cpos)) none pos) (envX cn cs L a ccd [])) Q E s := by
  obtain ⟨nm, q, Nn, bs, hdct, sn, sub, ab, col, dd, k0, k1, k2, k3, k5, hCg, rfl⟩ := cls71 S.X
  have hC := S.F.keep _ _ hCg
  rw [arm_exec_Raise]
  have key : wpAny (model pr w) (ktrTop dp un gd cn cs L a ccd [] outer) (eval (.Call (.Name "BadInstruction" np) [.Name "word" wp] [] cpos) (envX cn cs L a ccd [])) (fun v s₁ => ∃ e oe, v = .ref e ∧ s₁.heap.get? 71 = some (excClassObj nm q 71 70 bs bmBI hdct sn sub ab col dd k0 k1 k2 k3 k5 "ValueError.__new__") ∧
      s₁.heap.get? e = some oe ∧ oe.cls = .ref 71 ∧ (∃ a0, oe.data = .fields #[a0, .none, .none, .none, .bool false, .none]) ∧ E (.ref e) s₁) E s := by
    refine wpAny_Call_ofName (nameX_K S.F S.X (topRead_of S.T) (v := .ref 71) (by kernel_rfl) ?_ hk hx (by decide))
    refine callWith_K (K := K0 w.params) S.X (by kernel_rfl) (spliced_more (nameX_L (v := .int i t) S.F hmw ?_ hk hw (by decide)))
    refine spliced_none ⟨S.K, ?_⟩
    refine call_BI (fI := 68) hC (mN := s.heap.nsMap 70) ?_ ?_ (S.K _ _ (fo68 _)) rfl fun h1 e hm => ?_
    · exact .of_isNs (isNs_of_in S.K (by kernel_rfl))
    · exact ns_some_of S.K (.of_isNs (isNs_of_in S.K (by kernel_rfl : nsOkIn (K0 w.params) 70 = true))) (by kernel_rfl)
    · obtain ⟨t0, het, htn, htt⟩ := hm.there
      have F1 := S.F.keeps hm.keeps
      have ge : g.get? e = none := kts_none S.F.keep hm.new
      have N0 : News g L h1 news := fun p hp => ⟨hm.keeps _ _ (S.N p hp).1, (S.N p hp).2⟩
      have hne : ∀ p ∈ news, p.1 ≠ e := fun p hp z => by have := (S.N p hp).1; rw [z, hm.new] at this; cases this
      have N1 : News g L h1 ((e, excO none t0 #[]) :: news) := News.more F1 N0 het (fun es n q => by cases q) ge
      refine wpAny_mono (badInit hne hi _ _ gd cn cs a ccd [] outer A₀ base g L m _ (fun r s' => r = .none ∧ _) E ⟨S.B, F1, S.X, N1, S.T⟩ hk ?_ ?_ fun r n h2 tk2 hr F2 N2 => ?_) (fun _ _ z => z) fun _ _ z => z
      · rw [weight_cls]; show dp + 1 + 2 ≤ 900; omega
      · rw [units_cls]; show un + 1 + 20 * 2 ≤ 9000; omega
      · obtain ⟨rfl, dx, es, t1, v1, n0, rfl, -, -, hdx, hrd, htd, htx, hrt⟩ := hr
        have he2 := N2 _ (.tail _ (.head _))
        have ht2 := N2 _ (.tail _ (.tail _ (.head _)))
        obtain ⟨ow, F', N'⟩ := own_hide F2 (News.sub N2 fun p hp => .tail _ (.tail _ (.tail _ hp))) he2.1 ht2.1 he2.2.2 ht2.2.2 he2.2.1 ht2.2.1 hne hrt
        exact ⟨rfl, e, _, rfl, F2.keep _ _ hCg, he2.1, rfl, ⟨_, rfl⟩, hE e h2 tk2 _ t1 v1 ow F' N'⟩
  refine wpAny_bind (wpAny_standAt (raiseStmt_own (C := 71) (N := 70) (nm := nm) (q := q) (bs := bs) (bm := bmBI) (hdct := hdct) (sn := sn) (sub := sub) (ab := ab) (col := col) (dd := dd) (k0 := k0) (k1 := k1) (k2 := k2) (k3 := k3) (k5 := k5) (newId := "ValueError.__new__") (by decide) rfl ?_))
  exact wpAny_bind (wpAny_mono key (fun v s₃ h₃ => wpAny_bind (wpAny_standAt (wpAny_pure h₃))) fun _ _ x => x)
noncomputable def CallR (w : World) (mean : ExcName → Option Value) (mg mb : Str → Option Value) (f : Addr) (d : Nat) (vs : List Value) (news : Led) (P : Value → Led → Prop) (Rz : Prop) : Prop :=
  ∀ (dp un : Nat) (gd : Option (List Code)) (cn : Str) (cs : Scope) (a : Addr) (ccd : Value) (cl : List (Str × Addr)) (outer : List Env) (A₀ : Around) (base g : Heap) (L : Addr) (m : Str → Option Value) (s : Shared) (Q E : Value → Shared → Prop),
    Sit w mean mg mb A₀ base outer g L m news s.heap → cs.kind = .function → dp + d ≤ 900 → un + 20 * d ≤ 9000 →
    (∀ r news' h' tk', P r news' → Fr g L h' m → News g L h' news' → Q r { s with heap := h', toks := tk' }) →
    (∀ e h' tk' gB t v, Rz → Fr g L gB m → gB.UpToSlots h' → RaisedS base gB (envX cn cs L a ccd cl :: outer) e (.ref 71) t [v] news h' → E (.ref e) { s with heap := h', toks := tk' }) →
    wpAny (model pr w) (ktrTop dp un gd cn cs L a ccd cl outer) (call (.ref f) vs) Q E s
noncomputable def BodyR (w : World) (mean : ExcName → Option Value) (mg mb : Str → Option Value) (f : Addr) (qual : Str) (sc : Scope) (cdv : Value) (bd : List Stmt) (d : Nat) (m : Str → Option Value) (news : Led) (P : Value → Led → Prop) (Rz : Prop) : Prop :=
  ∀ (dp un : Nat) (gd : Option (List Code)) (outer : List Env) (A₀ : Around) (base g : Heap) (L : Addr) (s : Shared) (Q : Flow → Shared → Prop) (E : Value → Shared → Prop),
    Sit w mean mg mb A₀ base outer g L m news s.heap → dp + d ≤ 900 → un + 20 * d ≤ 9000 →
    (∀ fl r m' news' h' tk', P r news' → (fl = .ret r ∨ (fl = .next ∧ r = .none)) → Fr g L h' m' → News g L h' news' → Q fl { s with heap := h', toks := tk' }) →
    (∀ e h' tk' h t v m', Rz → OwnExc h h' e (.ref 71) t [v] → Fr g L h m' → News g L h news → E (.ref e) { s with heap := h', toks := tk' }) →
    wpAny (model pr w) (ktrTop dp un gd qual sc L f cdv [] outer) (execs bd (envX qual sc L f cdv [])) Q E s
theorem CallR.of {w : World} {mean : ExcName → Option Value} {mg mb : Str → Option Value} {f : Addr} {d : Nat} {vs : List Value} {news : Led} {P : Value → Led → Prop} {Rz : Prop}
    {name qual : Str} {ps : Arguments} {bd : List Stmt} {sc : Scope} {dV kV doc pm cdv ct oc : Value} {an od : Option Addr} {osl : Array (Option Value)} {binds : List (Str × Value)}
    (ho : (K0 w.params).lookup f = some ⟨oc, od, .func (fnOf name qual ps bd sc dV kV doc pm an cdv ct), osl⟩) (hcd : codeIn (K0 w.params) cdv qual = true)
    (hbind : bindArgs (fnOf name qual ps bd sc dV kV doc pm an cdv ct) ⟨vs, []⟩ = pure binds)
    (body : BodyR w mean mg mb f qual sc cdv bd d (fun y => binds.reverse.lookup y) news P Rz)
    (hloc : (binds.all fun x => decide (sc.names.lookup x.1 = some .local)) = true := by kernel_rfl)
    (hco : sc.isCoroutine = false := by rfl) (hgen : sc.isGenerator = false := by rfl) (hks : sc.kind = .function := by rfl) (hcell : ∀ x ∈ sc.names, x.2 ≠ .cell := by decide) : CallR w mean mg mb f (d + 1) vs news P Rz := by
  intro dp un gd cn cs a ccd cl outer A₀ base g L m s Q E S hk hd hu ret rai
  refine wpAny_call (code_def S.B S.F S.X S.N S.T rfl rfl hk ho hcd (by show dp < recursionLimit; simp only [recursionLimit]; omega) (BindsTo.of_eq hbind) (locs hloc) (fun g' L' h₁ FG F' N' B' X' T' => ?_) hco hgen hks hcell)
  refine body (dp + 1) (un + 3) gd _ _ base g' L' _ _ _ ⟨B', F', X', N', T'⟩ (by omega) (by omega) (fun fl r m' news' h' tk' hp hfl F2 N2 => ?_) fun e h' tk' h t v m' hz ow F2 N2 => ?_
  · rcases hfl with rfl | ⟨rfl, rfl⟩ <;> exact ⟨L', m', news', F2, N2, fun F3 N3 => ret _ news' _ _ hp F3 N3⟩
  · exact leave_own (s' := ⟨h', s.gens, s.drawn, tk', s.os⟩) B' ow F2 N2 (fun h'' R U => rai e h'' tk' g' t v hz FG U R) hks
section
variable {w : World} {a : At} {news : Led}
theorem EVs.consI {e : Expr} {es : List Expr} {i : Int} {R : List Value → Led → Prop} (x : EV w a news e (Same news (IsI i))) (y : ∀ t, EVs w a news es fun vs n' => R (.int i t :: vs) n')
    (he : starEach (e :: es) a.env = (false, eval e a.env) :: starEach es a.env := by rfl) : EVs w a news (e :: es) R := .cons x (fun v n h => by obtain ⟨⟨t, rfl⟩, rfl⟩ := h; exact y t) he
theorem EVs.consS {e : Expr} {es : List Expr} {i : Str} {R : List Value → Led → Prop} (x : EV w a news e (Same news (IsS i))) (y : ∀ t, EVs w a news es fun vs n' => R (.str i t :: vs) n')
    (he : starEach (e :: es) a.env = (false, eval e a.env) :: starEach es a.env := by rfl) : EVs w a news (e :: es) R := .cons x (fun v n h => by obtain ⟨⟨t, rfl⟩, rfl⟩ := h; exact y t) he
theorem EV.ite {t x y : Expr} {pos : Pos} {b : Bool} {P : Value → Led → Prop} (T : TE w a news t b) (X : b = true → EV w a news x P) (Y : b = false → EV w a news y P) : EV w a news (.IfExp t x y pos) P := fun s Q E F N q => by
  refine wpAny_IfExp (T s _ _ F N fun h' tk F' N' => ?_)
  cases b with
  | true => exact X rfl _ _ _ F' N' fun v n h'' tk' p F'' N'' => q v n h'' tk' p F'' N''
  | false => exact Y rfl _ _ _ F' N' fun v n h'' tk' p F'' N'' => q v n h'' tk' p F'' N''
theorem st_returnE {env : Env} {s : Shared} {rest : List Stmt} {Q : Flow → Shared → Prop} {E : Value → Shared → Prop} {pos : Pos} {e : Expr} {P : Value → Led → Prop}
    (henv : a.env = env) (F : Fr a.g a.L s.heap a.m) (N : News a.g a.L s.heap news) (ev : EV w a news e P)
    (k : ∀ v n h' tk, P v n → Fr a.g a.L h' a.m → News a.g a.L h' n → Q (.ret v) { s with heap := h', toks := tk }) :
    wpAny (model pr w) a.A (execs (.Return (some e) pos :: rest) env) Q E s := by
  subst henv
  exact wpAny_execs_cons (wpAny_Return_some (ev s _ _ F N fun v n h' tk p F' N' => k v n h' tk p F' N'))
end
section
variable {w : World} {mean : ExcName → Option Value} {mg mb : Str → Option Value} {news : Led} {nm : Str} {rd rs1 rs2 imm csr : Int} {t0 t1 t2 t3 t4 t5 : Tok}
theorem mkI6 : Call w mean mg mb 98 2 [.str nm t0, .int rd t1, .int rs1 t2, .int rs2 t3, .int imm t4, .int csr t5] news (MadeI news nm rd rs1 rs2 imm csr) :=
  mkI (t0 := t0) (t1 := t1) (t2 := t2) (t3 := t3) (t4 := t4) (t5 := t5) fun x s X => binds_K (T := 81) (o := ⟨.type "tuple", none, .seq #[.int 0 301, .int 0 302, .int 0 303, .int 0 304, .int 0 305] 0, #[]⟩) (items := #[.int 0 301, .int 0 302, .int 0 303, .int 0 304, .int 0 305]) (n := 0) X rfl (by kernel_rfl) rfl rfl (by kernel_rfl)
theorem mkI5 : Call w mean mg mb 98 2 [.str nm t0, .int rd t1, .int rs1 t2, .int rs2 t3, .int imm t4] news (MadeI news nm rd rs1 rs2 imm 0) :=
  mkI (t0 := t0) (t1 := t1) (t2 := t2) (t3 := t3) (t4 := t4) (t5 := 305) fun x s X => binds_K (T := 81) (o := ⟨.type "tuple", none, .seq #[.int 0 301, .int 0 302, .int 0 303, .int 0 304, .int 0 305] 0, #[]⟩) (items := #[.int 0 301, .int 0 302, .int 0 303, .int 0 304, .int 0 305]) (n := 0) X rfl (by kernel_rfl) rfl rfl (by kernel_rfl)
theorem mkI4 : Call w mean mg mb 98 2 [.str nm t0, .int rd t1, .int rs1 t2, .int rs2 t3] news (MadeI news nm rd rs1 rs2 0 0) :=
  mkI (t0 := t0) (t1 := t1) (t2 := t2) (t3 := t3) (t4 := 304) (t5 := 305) fun x s X => binds_K (T := 81) (o := ⟨.type "tuple", none, .seq #[.int 0 301, .int 0 302, .int 0 303, .int 0 304, .int 0 305] 0, #[]⟩) (items := #[.int 0 301, .int 0 302, .int 0 303, .int 0 304, .int 0 305]) (n := 0) X rfl (by kernel_rfl) rfl rfl (by kernel_rfl)
theorem mkI1 : Call w mean mg mb 98 2 [.str nm t0] news (MadeI news nm 0 0 0 0 0) :=
  mkI (t0 := t0) (t1 := 301) (t2 := 302) (t3 := 303) (t4 := 304) (t5 := 305) fun x s X => binds_K (T := 81) (o := ⟨.type "tuple", none, .seq #[.int 0 301, .int 0 302, .int 0 303, .int 0 304, .int 0 305] 0, #[]⟩) (items := #[.int 0 301, .int 0 302, .int 0 303, .int 0 304, .int 0 305]) (n := 0) X rfl (by kernel_rfl) rfl rfl (by kernel_rfl)
end
end Mine
end
section
open PySem PySem.W PyProof.Rows PySem.Calls PyProof.V PySem.Spec
set_option maxHeartbeats 4000000
namespace Mine
theorem st_assignE {w : World} {a : At} {cn : Str} {cs : Scope} {L f : Addr} {ccd : Value} {cl : List (Str × Addr)} {news : Led} {s : Shared} {rest : List Stmt} {Q : Flow → Shared → Prop} {E : Value → Shared → Prop} {pos np : Pos} {x : Str} {e : Expr} {P : Value → Led → Prop}
    (henv : a.env = envX cn cs L f ccd cl) (hL : a.L = L) (F : Fr a.g a.L s.heap a.m) (N : News a.g a.L s.heap news) (ev : EV w a news e P)
    (k : ∀ v n h' tk, P v n → Fr a.g L h' (fun y => if y = x then some v else a.m y) → News a.g L h' n → wpAny (model pr w) a.A (execs rest (envX cn cs L f ccd cl)) Q E { s with heap := h', toks := tk })
    (hk : cs.kind = .function := by rfl) (hx : (envX cn cs L f ccd cl).kindOf x = some .local := by rfl) (hs : swapsWith e (some (.Name x np)) pos.line (envX cn cs L f ccd cl) = pure false := by rfl) :
    wpAny (model pr w) a.A (execs (.Assign [.Name x np] e pos :: rest) (envX cn cs L f ccd cl)) Q E s := by
  subst hL
  rw [← henv] at hs ⊢
  refine wpAny_execs_cons (wpAny_Assign_Name (ev s _ _ F N fun v n h' tk p F' N' => ?_) hs)
  rw [henv]
  exact storeX_L (s := { s with heap := h', toks := tk }) F' N' (fun h'' F2 N2 => by rw [henv] at *; exact k v n h'' _ p F2 N2) hk hx
theorem TV.isNone {w : World} {A : Around} {env : Env} {h : Heap} {l r : Expr} {pos : Pos} {v : Value} (x : PV pr w A env h l (· = v)) (y : PV pr w A env h r (· = .none)) (hm : behindInMarks .Is r = false := by with_unfolding_all rfl) : TV pr w A env h (.Compare l [.Is] [r] pos) (v == .none) :=
  .cmp x y (fun s u v' Q E _ hu hv q => by subst hu hv; exact is_none_gen (q s.toks)) hm
theorem tabs_ok : (tOpc ++ tThird ++ tSev ++ tWhole).all (fun p => (shT.lookup p.2).isSome) = true := by kernel_rfl
theorem shape_row {x : Int} {a : Nat} (h : shapeOf x = some a) : ∃ r, shT.lookup a = some r := by
  have key : ∀ k, (k, a) ∈ tOpc ++ tThird ++ tSev ++ tWhole → ∃ r, shT.lookup a = some r := fun k hk => Option.isSome_iff_exists.mp (List.all_eq_true.mp tabs_ok _ hk)
  unfold shapeOf at h
  split at h
  · next b e => cases h; exact key _ (List.mem_append_left _ (List.mem_append_left _ (List.mem_append_left _ (lookup_mem e))))
  · split at h
    · next b e => cases h; exact key _ (List.mem_append_left _ (List.mem_append_left _ (List.mem_append_right _ (lookup_mem e))))
    · split at h
      · next b e =>
        split at h
        · cases h
        · cases h; exact key _ (List.mem_append_left _ (List.mem_append_right _ (lookup_mem e)))
      · exact key _ (List.mem_append_right _ (lookup_mem h))
noncomputable def badW (x : Int) : Bool := (decide (x < 0) || (x.fdiv (2 ^ 32) != 0)) || (shapeOf x).isNone
noncomputable abbrev rdF (x : Int) : Int := Builtin.bitAnd (x.fdiv (2 ^ 7)) (31 : Nat)
noncomputable abbrev rs1F (x : Int) : Int := Builtin.bitAnd (x.fdiv (2 ^ 15)) (31 : Nat)
noncomputable abbrev rs2F (x : Int) : Int := Builtin.bitAnd (x.fdiv (2 ^ 20)) (31 : Nat)
noncomputable abbrev lowF (x : Int) : Int := Builtin.bitOr (x.fdiv (2 ^ 25) * 2 ^ 5) (rdF x)
noncomputable def hiF (x : Int) : Int := if Builtin.bitAnd (x.fdiv (2 ^ 20)) (2048 : Nat) != 0 then x.fdiv (2 ^ 20) - 4096 else x.fdiv (2 ^ 20)
noncomputable def loF (x : Int) : Int := if x.fdiv (2 ^ 31) != 0 then lowF x - 4096 else lowF x
noncomputable def decF (kd : Str) (x : Int) : Int × Int × Int × Int × Int :=
  if kd == "I" then (rdF x, rs1F x, 0, hiF x, 0)
  else if kd == "R" then (rdF x, rs1F x, rs2F x, 0, 0)
  else if kd == "B" then (0, rs1F x, rs2F x, gbF x, 0)
  else if kd == "S" then (0, rs1F x, rs2F x, loF x, 0)
  else if kd == "U" then (rdF x, 0, 0, x.fdiv (2 ^ 12), 0)
  else if kd == "J" then (rdF x, 0, 0, gjF x, 0)
  else if kd == "shift" then (rdF x, rs1F x, 0, rs2F x, 0)
  else if kd == "fence" then (rdF x, rs1F x, 0, x.fdiv (2 ^ 20), 0)
  else if kd == "CSR" then (rdF x, rs1F x, 0, 0, x.fdiv (2 ^ 20))
  else if kd == "CSRI" then (rdF x, 0, 0, rs1F x, x.fdiv (2 ^ 20))
  else if kd == "flush" then (0, rs1F x, rs2F x, 0, 0) else (0, 0, 0, 0, 0)
noncomputable def Decoded (news : Led) (x : Int) (r : Value) (n : Led) : Prop :=
  ∃ a nm kd o th sv rd rs1 rs2 imm csr, shapeOf x = some a ∧ shT.lookup a = some (nm, kd, o, th, sv) ∧ decF kd x = (rd, rs1, rs2, imm, csr) ∧ MadeI news nm rd rs1 rs2 imm csr r n
noncomputable abbrev dA (dp un : Nat) (gd : Option (List Code)) (L : Addr) (outer : List Env) : Around := ktrTop dp un gd (Str.ofString "decode") scF32 L 1077 (Value.ref 1076) [] outer
noncomputable abbrev dE (L : Addr) : Env := envX "decode" scF32 L 1077 (.ref 1076) []
structure DC (x : Int) (t : Tok) (ad : Nat) (nm kd : Str) (o th sv : Int) (k0 k1 k2 k3 k4 : Tok) (m : Str → Option Value) : Prop where
  word : m "word" = some (.int x t)
  shape : m "shape" = some (.ref ad)
  kind : m "kind" = some (.str kd k0)
  rd : m "rd" = some (.int (rdF x) k1)
  rs1 : m "rs1" = some (.int (rs1F x) k2)
  rs2 : m "rs2" = some (.int (rs2F x) k3)
  high : m "high" = some (.int (x.fdiv (2 ^ 20)) k4)
  sh : shapeOf x = some ad
  row : shT.lookup ad = some (nm, kd, o, th, sv)
  lo : 0 ≤ x
  up : x < 2 ^ 32
section
variable {w : World} {mean : ExcName → Option Value} {mg mb : Str → Option Value} {A₀ : Around} {base g : Heap} {outer : List Env} {L : Addr} {m : Str → Option Value} {n : Led} {dp un : Nat} {gd : Option (List Code)}
  {x : Int} {t : Tok} {ad : Nat} {nm kd : Str} {o th sv : Int} {k0 k1 k2 k3 k4 : Tok}
theorem iteI {A : Around} {env : Env} {h : Heap} {e a c : Expr} {pos : Pos} {b : Bool} {i j : Int} (T : TV pr w A env h e b) (X : PV pr w A env h a (IsI i)) (Y : PV pr w A env h c (IsI j)) : PV pr w A env h (.IfExp e a c pos) (IsI (if b then i else j)) :=
  .ite T (fun e => by rw [if_pos e]; exact X) fun e => by rw [if_neg (by rw [e]; decide)]; exact Y
noncomputable abbrev dAt (dp un : Nat) (gd : Option (List Code)) (g : Heap) (L : Addr) (outer : List Env) (m : Str → Option Value) : At := ⟨dA dp un gd L outer, dE L, g, L, m⟩
theorem d_int {y : Str} {p : Pos} {i : Int} {u : Tok} (e : m y = some (.int i u)) (hx : (dE L).kindOf y = some .local) (hd : (y == ("__debug__" : Str)) = false) : EV w (dAt dp un gd g L outer m) n (.Name y p) (Same n (IsI i)) :=
  EV.nameL (cn := "decode") (cs := scF32) (L := L) (f := 1077) (ccd := .ref 1076) (cl := []) rfl rfl e (isI i u) rfl hx hd
theorem d_const {c : Int} {k : Nat} {p : Pos} : EV w (dAt dp un gd g L outer m) n (.Constant (.int c) k p) (Same n (IsI c)) := .pv fun h F N => .const _ _ _
theorem d_name (X : (K0 w.params).In g) (D : DC x t ad nm kd o th sv k0 k1 k2 k3 k4 m) {p q : Pos} : EV w (dAt dp un gd g L outer m) n (.Attribute (.Name "shape" p) "name" q) (Same n (IsS nm)) := by
  refine .pv fun h F N => ?_
  obtain ⟨sl, dx, es, ns, H⟩ := shp_at (X.keeps F.keep) D.row
  obtain ⟨kt, hnm⟩ := H.name
  exact PV.shAttr F X (at_ := none) (.name (cn := "decode") (cs := scF32) (L := L) (a := 1077) (ccd := .ref 1076) (cl := []) F D.shape rfl) H.at_ (by kernel_rfl) (by kernel_rfl) (by kernel_rfl) rfl hnm rfl
theorem d_call (B : Below A₀ base outer g) (X : (K0 w.params).In g) (T : Top qv (looseW qv looseL) mean mg mb g) (hd : dp + 4 ≤ 900) (hu : un + 80 ≤ 9000) {e0 : Expr} {es : List Expr} {np pos : Pos} {Pa : List Value → Led → Prop} {rd rs1 rs2 imm csr : Int}
    (args : EVs w (dAt dp un gd g L outer m) n (e0 :: es) Pa) (C : ∀ vs n', Pa vs n' → Call w mean mg mb 98 2 vs n' (MadeI n nm rd rs1 rs2 imm csr))
    (he : starEach (e0 :: es) (dE L) = (false, eval e0 (dE L)) :: starEach es (dE L) := by rfl) (hplain : (backTo pos (starEach es (dE L))).any (·.1) = false := by rfl) :
    EV w (dAt dp un gd g L outer m) n (.Call (.Name "Instruction" np) (e0 :: es) [] pos) (MadeI n nm rd rs1 rs2 imm csr) :=
  EV.call (cn := "decode") (cs := scF32) (L := L) (f0 := 1077) (ccd := .ref 1076) (cl := []) rfl B X T (f := 98) (d := 2) (by kernel_rfl) (by kernel_rfl) args C (by omega) (by omega) rfl rfl (by decide) he hplain
theorem d_done {s : Shared} {rest : List Stmt} {Q : Flow → Shared → Prop} {E : Value → Shared → Prop} {pos : Pos} {e : Expr} {rd rs1 rs2 imm csr : Int} (F : Fr g L s.heap m) (N : News g L s.heap n)
    (D : shapeOf x = some ad) (Dr : shT.lookup ad = some (nm, kd, o, th, sv)) (hF : decF kd x = (rd, rs1, rs2, imm, csr)) (ev : EV w (dAt dp un gd g L outer m) n e (MadeI n nm rd rs1 rs2 imm csr))
    (ret : ∀ r n' h' tk' m', Decoded n x r n' → Fr g L h' m' → News g L h' n' → Q (.ret r) { s with heap := h', toks := tk' }) :
    wpAny (model pr w) (dA dp un gd L outer) (execs (.Return (some e) pos :: rest) (dE L)) Q E s :=
  st_returnE (a := dAt dp un gd g L outer m) rfl F N ev fun v n' h' tk p F' N' => ret v n' h' tk m ⟨ad, nm, kd, o, th, sv, rd, rs1, rs2, imm, csr, D, Dr, hF, p⟩ F' N'
end
noncomputable abbrev ifB (l : List Stmt) (i : Nat) : List Stmt := match l[i]? with | some (.If _ b _ _) => b | _ => []
section
variable {w : World} {mean : ExcName → Option Value} {mg mb : Str → Option Value} {A₀ : Around} {base g : Heap} {outer : List Env} {L : Addr} {m : Str → Option Value} {n : Led} {dp un : Nat} {gd : Option (List Code)}
  {x : Int} {t : Tok} {ad : Nat} {nm kd : Str} {o th sv : Int} {k0 k1 k2 k3 k4 : Tok}
theorem dec_I {s : Shared} {Q : Flow → Shared → Prop} {E : Value → Shared → Prop} (S : Sit w mean mg mb A₀ base outer g L m n s.heap) (hd : dp + 4 ≤ 900) (hu : un + 80 ≤ 9000) (D : DC x t ad nm "I" o th sv k0 k1 k2 k3 k4 m)
    (ret : ∀ r n' h' tk' m', Decoded n x r n' → Fr g L h' m' → News g L h' n' → Q (.ret r) { s with heap := h', toks := tk' }) :
    wpAny (model pr w) (dA dp un gd L outer) (execs (ifB bdF32 5) (dE L)) Q E s := by
  exact d_done S.F S.N D.sh D.row (rd := rdF x) (rs1 := rs1F x) (rs2 := 0) (imm := hiF x) (csr := 0) (by rfl) (d_call S.B S.X S.T hd hu (Pa := fun vs n0 => (∃ t0 t1 t2 t3 t4 : Tok, vs = [.str nm t0, .int (rdF x) t1, .int (rs1F x) t2, .int (0) t3, .int (hiF x) t4]) ∧ n0 = n) (.consS (d_name S.X D) fun t0 => .consI (d_int D.rd rfl rfl) fun t1 => .consI (d_int D.rs1 rfl rfl) fun t2 => .consI d_const fun t3 => .consI (.pv fun h F N => iteI (.int (.and_ (.nameI (cn := "decode") (cs := scF32) (L := L) (a := 1077) (ccd := .ref 1076) (cl := []) F (D.high)) (.const 2048 _ _))) (.sub (.nameI (cn := "decode") (cs := scF32) (L := L) (a := 1077) (ccd := .ref 1076) (cl := []) F (D.high)) (.const 4096 _ _)) (.nameI (cn := "decode") (cs := scF32) (L := L) (a := 1077) (ccd := .ref 1076) (cl := []) F (D.high))) fun t4 => .nil ⟨⟨t0, t1, t2, t3, t4, rfl⟩, rfl⟩) (fun vs n0 h => by obtain ⟨⟨t0, t1, t2, t3, t4, rfl⟩, rfl⟩ := h; exact mkI5)) ret
theorem dec_R {s : Shared} {Q : Flow → Shared → Prop} {E : Value → Shared → Prop} (S : Sit w mean mg mb A₀ base outer g L m n s.heap) (hd : dp + 4 ≤ 900) (hu : un + 80 ≤ 9000) (D : DC x t ad nm "R" o th sv k0 k1 k2 k3 k4 m)
    (ret : ∀ r n' h' tk' m', Decoded n x r n' → Fr g L h' m' → News g L h' n' → Q (.ret r) { s with heap := h', toks := tk' }) :
    wpAny (model pr w) (dA dp un gd L outer) (execs (ifB bdF32 6) (dE L)) Q E s := by
  exact d_done S.F S.N D.sh D.row (rd := rdF x) (rs1 := rs1F x) (rs2 := rs2F x) (imm := 0) (csr := 0) (by rfl) (d_call S.B S.X S.T hd hu (Pa := fun vs n0 => (∃ t0 t1 t2 t3 : Tok, vs = [.str nm t0, .int (rdF x) t1, .int (rs1F x) t2, .int (rs2F x) t3]) ∧ n0 = n) (.consS (d_name S.X D) fun t0 => .consI (d_int D.rd rfl rfl) fun t1 => .consI (d_int D.rs1 rfl rfl) fun t2 => .consI (d_int D.rs2 rfl rfl) fun t3 => .nil ⟨⟨t0, t1, t2, t3, rfl⟩, rfl⟩) (fun vs n0 h => by obtain ⟨⟨t0, t1, t2, t3, rfl⟩, rfl⟩ := h; exact mkI4)) ret
theorem dec_B {s : Shared} {Q : Flow → Shared → Prop} {E : Value → Shared → Prop} (S : Sit w mean mg mb A₀ base outer g L m n s.heap) (hd : dp + 4 ≤ 900) (hu : un + 80 ≤ 9000) (D : DC x t ad nm "B" o th sv k0 k1 k2 k3 k4 m)
    (ret : ∀ r n' h' tk' m', Decoded n x r n' → Fr g L h' m' → News g L h' n' → Q (.ret r) { s with heap := h', toks := tk' }) :
    wpAny (model pr w) (dA dp un gd L outer) (execs (ifB bdF32 7) (dE L)) Q E s := by
  exact d_done S.F S.N D.sh D.row (rd := 0) (rs1 := rs1F x) (rs2 := rs2F x) (imm := gbF x) (csr := 0) (by rfl) (d_call S.B S.X S.T hd hu (Pa := fun vs n0 => (∃ t0 t1 t2 t3 t4 : Tok, vs = [.str nm t0, .int (0) t1, .int (rs1F x) t2, .int (rs2F x) t3, .int (gbF x) t4]) ∧ n0 = n) (.consS (d_name S.X D) fun t0 => .consI d_const fun t1 => .consI (d_int D.rs1 rfl rfl) fun t2 => .consI (d_int D.rs2 rfl rfl) fun t3 => .consI (EV.call (cn := "decode") (cs := scF32) (L := L) (f0 := 1077) (ccd := .ref 1076) (cl := []) rfl S.B S.X S.T (f := 1056) (d := 1) (Pa := fun vs n0 => vs = [.int x t] ∧ n0 = n) (by kernel_rfl) (by kernel_rfl) (.cons (P := Same n (· = .int x t)) (EV.nameL (cn := "decode") (cs := scF32) (L := L) (f := 1077) (ccd := .ref 1076) (cl := []) rfl rfl D.word rfl rfl rfl (by decide)) fun v n0 hv => .nil ⟨by rw [hv.1], hv.2⟩) (fun vs n0 h => by obtain ⟨rfl, rfl⟩ := h; exact gb) (by omega) (by omega)) fun t4 => .nil ⟨⟨t0, t1, t2, t3, t4, rfl⟩, rfl⟩) (fun vs n0 h => by obtain ⟨⟨t0, t1, t2, t3, t4, rfl⟩, rfl⟩ := h; exact mkI5)) ret
theorem dec_S {s : Shared} {Q : Flow → Shared → Prop} {E : Value → Shared → Prop} (S : Sit w mean mg mb A₀ base outer g L m n s.heap) (hd : dp + 4 ≤ 900) (hu : un + 80 ≤ 9000) (D : DC x t ad nm "S" o th sv k0 k1 k2 k3 k4 m)
    (ret : ∀ r n' h' tk' m', Decoded n x r n' → Fr g L h' m' → News g L h' n' → Q (.ret r) { s with heap := h', toks := tk' }) :
    wpAny (model pr w) (dA dp un gd L outer) (execs (ifB bdF32 8) (dE L)) Q E s := by
  refine st_assign (cn := "decode") (cs := scF32) (L := L) (a := 1077) (ccd := .ref 1076) (cl := []) (x := "low") S.F S.N (P := IsI (lowF x)) (.or_ (.shl (.shr (.nameI S.F D.word) (.const 25 _ _)) (.const 5 _ _) (by decide) (by have := D.lo; have := D.up; rw [Int.fdiv_eq_ediv_of_nonneg _ (by decide)]; omega)) (.nameI S.F D.rd)) ?_
  intro v h1 tk1 hv F1 N1
  obtain ⟨kl, rfl⟩ := hv
  have W2 : (fun y => if y = "low" then some (.int (lowF x) kl) else m y) "word" = some (.int x t) := D.word
  have L2 : (fun y : Str => if y = "low" then some (Value.int (lowF x) kl) else m y) "low" = some (.int (lowF x) kl) := rfl
  have D2 : DC x t ad nm "S" o th sv k0 k1 k2 k3 k4 (fun y => if y = "low" then some (.int (lowF x) kl) else m y) := ⟨D.word, D.shape, D.kind, D.rd, D.rs1, D.rs2, D.high, D.sh, D.row, D.lo, D.up⟩
  exact d_done (s := { s with heap := h1, toks := tk1 }) F1 N1 D.sh D.row (rd := 0) (rs1 := rs1F x) (rs2 := rs2F x) (imm := loF x) (csr := 0) (by rfl) (d_call S.B S.X S.T hd hu (Pa := fun vs n0 => (∃ t0 t1 t2 t3 t4 : Tok, vs = [.str nm t0, .int (0) t1, .int (rs1F x) t2, .int (rs2F x) t3, .int (loF x) t4]) ∧ n0 = n) (.consS (d_name S.X D2) fun t0 => .consI d_const fun t1 => .consI (d_int D2.rs1 rfl rfl) fun t2 => .consI (d_int D2.rs2 rfl rfl) fun t3 => .consI (.pv fun h F N => iteI (.int (.shr (.nameI (cn := "decode") (cs := scF32) (L := L) (a := 1077) (ccd := .ref 1076) (cl := []) F W2) (.const 31 _ _))) (.sub (.nameI (cn := "decode") (cs := scF32) (L := L) (a := 1077) (ccd := .ref 1076) (cl := []) F L2) (.const 4096 _ _)) (.nameI (cn := "decode") (cs := scF32) (L := L) (a := 1077) (ccd := .ref 1076) (cl := []) F L2)) fun t4 => .nil ⟨⟨t0, t1, t2, t3, t4, rfl⟩, rfl⟩) (fun vs n0 h => by obtain ⟨⟨t0, t1, t2, t3, t4, rfl⟩, rfl⟩ := h; exact mkI5)) ret
theorem dec_U {s : Shared} {Q : Flow → Shared → Prop} {E : Value → Shared → Prop} (S : Sit w mean mg mb A₀ base outer g L m n s.heap) (hd : dp + 4 ≤ 900) (hu : un + 80 ≤ 9000) (D : DC x t ad nm "U" o th sv k0 k1 k2 k3 k4 m)
    (ret : ∀ r n' h' tk' m', Decoded n x r n' → Fr g L h' m' → News g L h' n' → Q (.ret r) { s with heap := h', toks := tk' }) :
    wpAny (model pr w) (dA dp un gd L outer) (execs (ifB bdF32 9) (dE L)) Q E s := by
  exact d_done S.F S.N D.sh D.row (rd := rdF x) (rs1 := 0) (rs2 := 0) (imm := x.fdiv (2 ^ 12)) (csr := 0) (by rfl) (d_call S.B S.X S.T hd hu (Pa := fun vs n0 => (∃ t0 t1 t2 t3 t4 : Tok, vs = [.str nm t0, .int (rdF x) t1, .int (0) t2, .int (0) t3, .int (x.fdiv (2 ^ 12)) t4]) ∧ n0 = n) (.consS (d_name S.X D) fun t0 => .consI (d_int D.rd rfl rfl) fun t1 => .consI d_const fun t2 => .consI d_const fun t3 => .consI (.pv fun h F N => .shr (.nameI (cn := "decode") (cs := scF32) (L := L) (a := 1077) (ccd := .ref 1076) (cl := []) F (D.word)) (.const 12 _ _)) fun t4 => .nil ⟨⟨t0, t1, t2, t3, t4, rfl⟩, rfl⟩) (fun vs n0 h => by obtain ⟨⟨t0, t1, t2, t3, t4, rfl⟩, rfl⟩ := h; exact mkI5)) ret
theorem dec_J {s : Shared} {Q : Flow → Shared → Prop} {E : Value → Shared → Prop} (S : Sit w mean mg mb A₀ base outer g L m n s.heap) (hd : dp + 4 ≤ 900) (hu : un + 80 ≤ 9000) (D : DC x t ad nm "J" o th sv k0 k1 k2 k3 k4 m)
    (ret : ∀ r n' h' tk' m', Decoded n x r n' → Fr g L h' m' → News g L h' n' → Q (.ret r) { s with heap := h', toks := tk' }) :
    wpAny (model pr w) (dA dp un gd L outer) (execs (ifB bdF32 10) (dE L)) Q E s := by
  exact d_done S.F S.N D.sh D.row (rd := rdF x) (rs1 := 0) (rs2 := 0) (imm := gjF x) (csr := 0) (by rfl) (d_call S.B S.X S.T hd hu (Pa := fun vs n0 => (∃ t0 t1 t2 t3 t4 : Tok, vs = [.str nm t0, .int (rdF x) t1, .int (0) t2, .int (0) t3, .int (gjF x) t4]) ∧ n0 = n) (.consS (d_name S.X D) fun t0 => .consI (d_int D.rd rfl rfl) fun t1 => .consI d_const fun t2 => .consI d_const fun t3 => .consI (EV.call (cn := "decode") (cs := scF32) (L := L) (f0 := 1077) (ccd := .ref 1076) (cl := []) rfl S.B S.X S.T (f := 1063) (d := 1) (Pa := fun vs n0 => vs = [.int x t] ∧ n0 = n) (by kernel_rfl) (by kernel_rfl) (.cons (P := Same n (· = .int x t)) (EV.nameL (cn := "decode") (cs := scF32) (L := L) (f := 1077) (ccd := .ref 1076) (cl := []) rfl rfl D.word rfl rfl rfl (by decide)) fun v n0 hv => .nil ⟨by rw [hv.1], hv.2⟩) (fun vs n0 h => by obtain ⟨rfl, rfl⟩ := h; exact gj) (by omega) (by omega)) fun t4 => .nil ⟨⟨t0, t1, t2, t3, t4, rfl⟩, rfl⟩) (fun vs n0 h => by obtain ⟨⟨t0, t1, t2, t3, t4, rfl⟩, rfl⟩ := h; exact mkI5)) ret
theorem dec_shift {s : Shared} {Q : Flow → Shared → Prop} {E : Value → Shared → Prop} (S : Sit w mean mg mb A₀ base outer g L m n s.heap) (hd : dp + 4 ≤ 900) (hu : un + 80 ≤ 9000) (D : DC x t ad nm "shift" o th sv k0 k1 k2 k3 k4 m)
    (ret : ∀ r n' h' tk' m', Decoded n x r n' → Fr g L h' m' → News g L h' n' → Q (.ret r) { s with heap := h', toks := tk' }) :
    wpAny (model pr w) (dA dp un gd L outer) (execs (ifB bdF32 11) (dE L)) Q E s := by
  exact d_done S.F S.N D.sh D.row (rd := rdF x) (rs1 := rs1F x) (rs2 := 0) (imm := rs2F x) (csr := 0) (by rfl) (d_call S.B S.X S.T hd hu (Pa := fun vs n0 => (∃ t0 t1 t2 t3 t4 : Tok, vs = [.str nm t0, .int (rdF x) t1, .int (rs1F x) t2, .int (0) t3, .int (rs2F x) t4]) ∧ n0 = n) (.consS (d_name S.X D) fun t0 => .consI (d_int D.rd rfl rfl) fun t1 => .consI (d_int D.rs1 rfl rfl) fun t2 => .consI d_const fun t3 => .consI (d_int D.rs2 rfl rfl) fun t4 => .nil ⟨⟨t0, t1, t2, t3, t4, rfl⟩, rfl⟩) (fun vs n0 h => by obtain ⟨⟨t0, t1, t2, t3, t4, rfl⟩, rfl⟩ := h; exact mkI5)) ret
theorem dec_fence {s : Shared} {Q : Flow → Shared → Prop} {E : Value → Shared → Prop} (S : Sit w mean mg mb A₀ base outer g L m n s.heap) (hd : dp + 4 ≤ 900) (hu : un + 80 ≤ 9000) (D : DC x t ad nm "fence" o th sv k0 k1 k2 k3 k4 m)
    (ret : ∀ r n' h' tk' m', Decoded n x r n' → Fr g L h' m' → News g L h' n' → Q (.ret r) { s with heap := h', toks := tk' }) :
    wpAny (model pr w) (dA dp un gd L outer) (execs (ifB bdF32 12) (dE L)) Q E s := by
  exact d_done S.F S.N D.sh D.row (rd := rdF x) (rs1 := rs1F x) (rs2 := 0) (imm := x.fdiv (2 ^ 20)) (csr := 0) (by rfl) (d_call S.B S.X S.T hd hu (Pa := fun vs n0 => (∃ t0 t1 t2 t3 t4 : Tok, vs = [.str nm t0, .int (rdF x) t1, .int (rs1F x) t2, .int (0) t3, .int (x.fdiv (2 ^ 20)) t4]) ∧ n0 = n) (.consS (d_name S.X D) fun t0 => .consI (d_int D.rd rfl rfl) fun t1 => .consI (d_int D.rs1 rfl rfl) fun t2 => .consI d_const fun t3 => .consI (d_int D.high rfl rfl) fun t4 => .nil ⟨⟨t0, t1, t2, t3, t4, rfl⟩, rfl⟩) (fun vs n0 h => by obtain ⟨⟨t0, t1, t2, t3, t4, rfl⟩, rfl⟩ := h; exact mkI5)) ret
theorem dec_CSR {s : Shared} {Q : Flow → Shared → Prop} {E : Value → Shared → Prop} (S : Sit w mean mg mb A₀ base outer g L m n s.heap) (hd : dp + 4 ≤ 900) (hu : un + 80 ≤ 9000) (D : DC x t ad nm "CSR" o th sv k0 k1 k2 k3 k4 m)
    (ret : ∀ r n' h' tk' m', Decoded n x r n' → Fr g L h' m' → News g L h' n' → Q (.ret r) { s with heap := h', toks := tk' }) :
    wpAny (model pr w) (dA dp un gd L outer) (execs (ifB bdF32 13) (dE L)) Q E s := by
  exact d_done S.F S.N D.sh D.row (rd := rdF x) (rs1 := rs1F x) (rs2 := 0) (imm := 0) (csr := x.fdiv (2 ^ 20)) (by rfl) (d_call S.B S.X S.T hd hu (Pa := fun vs n0 => (∃ t0 t1 t2 t3 t4 t5 : Tok, vs = [.str nm t0, .int (rdF x) t1, .int (rs1F x) t2, .int (0) t3, .int (0) t4, .int (x.fdiv (2 ^ 20)) t5]) ∧ n0 = n) (.consS (d_name S.X D) fun t0 => .consI (d_int D.rd rfl rfl) fun t1 => .consI (d_int D.rs1 rfl rfl) fun t2 => .consI d_const fun t3 => .consI d_const fun t4 => .consI (d_int D.high rfl rfl) fun t5 => .nil ⟨⟨t0, t1, t2, t3, t4, t5, rfl⟩, rfl⟩) (fun vs n0 h => by obtain ⟨⟨t0, t1, t2, t3, t4, t5, rfl⟩, rfl⟩ := h; exact mkI6)) ret
theorem dec_CSRI {s : Shared} {Q : Flow → Shared → Prop} {E : Value → Shared → Prop} (S : Sit w mean mg mb A₀ base outer g L m n s.heap) (hd : dp + 4 ≤ 900) (hu : un + 80 ≤ 9000) (D : DC x t ad nm "CSRI" o th sv k0 k1 k2 k3 k4 m)
    (ret : ∀ r n' h' tk' m', Decoded n x r n' → Fr g L h' m' → News g L h' n' → Q (.ret r) { s with heap := h', toks := tk' }) :
    wpAny (model pr w) (dA dp un gd L outer) (execs (ifB bdF32 14) (dE L)) Q E s := by
  exact d_done S.F S.N D.sh D.row (rd := rdF x) (rs1 := 0) (rs2 := 0) (imm := rs1F x) (csr := x.fdiv (2 ^ 20)) (by rfl) (d_call S.B S.X S.T hd hu (Pa := fun vs n0 => (∃ t0 t1 t2 t3 t4 t5 : Tok, vs = [.str nm t0, .int (rdF x) t1, .int (0) t2, .int (0) t3, .int (rs1F x) t4, .int (x.fdiv (2 ^ 20)) t5]) ∧ n0 = n) (.consS (d_name S.X D) fun t0 => .consI (d_int D.rd rfl rfl) fun t1 => .consI d_const fun t2 => .consI d_const fun t3 => .consI (d_int D.rs1 rfl rfl) fun t4 => .consI (d_int D.high rfl rfl) fun t5 => .nil ⟨⟨t0, t1, t2, t3, t4, t5, rfl⟩, rfl⟩) (fun vs n0 h => by obtain ⟨⟨t0, t1, t2, t3, t4, t5, rfl⟩, rfl⟩ := h; exact mkI6)) ret
end
section
variable {w : World} {mean : ExcName → Option Value} {mg mb : Str → Option Value} {A₀ : Around} {base g : Heap} {outer : List Env} {L : Addr} {m : Str → Option Value} {n : Led} {dp un : Nat} {gd : Option (List Code)}
  {x : Int} {t : Tok} {ad : Nat} {nm kd : Str} {o th sv : Int} {k0 k1 k2 k3 k4 : Tok}
theorem dec_end {s : Shared} {Q : Flow → Shared → Prop} {E : Value → Shared → Prop} (S : Sit w mean mg mb A₀ base outer g L m n s.heap) (hd : dp + 4 ≤ 900) (hu : un + 80 ≤ 9000) (D : DC x t ad nm kd o th sv k0 k1 k2 k3 k4 m)
    (ret : ∀ r n' h' tk' m', Decoded n x r n' → Fr g L h' m' → News g L h' n' → Q (.ret r) { s with heap := h', toks := tk' })
    (nk : ∀ k ∈ (["I", "R", "B", "S", "U", "J", "shift", "fence", "CSR", "CSRI"] : List Str), (kd == k) = false) :
    wpAny (model pr w) (dA dp un gd L outer) (execs (bdF32.drop 15) (dE L)) Q E s := by
  cases hf : (kd == ("flush" : Str)) with
  | true => exact d_done S.F S.N D.sh D.row (rd := 0) (rs1 := rs1F x) (rs2 := rs2F x) (imm := 0) (csr := 0) (by simp [decF, nk, hf]) (EV.ite (b := true) (.tv fun h F N => by rw [← hf]; exact .eqS (.name (cn := "decode") (cs := scF32) (L := L) (a := 1077) (ccd := .ref 1076) (cl := []) F D.kind ⟨k0, rfl⟩) (.constS _ _ _)) (fun _ => d_call S.B S.X S.T hd hu (Pa := fun vs n0 => (∃ t0 t1 t2 t3 : Tok, vs = [.str nm t0, .int (0) t1, .int (rs1F x) t2, .int (rs2F x) t3]) ∧ n0 = n) (.consS (d_name S.X D) fun t0 => .consI d_const fun t1 => .consI (d_int D.rs1 rfl rfl) fun t2 => .consI (d_int D.rs2 rfl rfl) fun t3 => .nil ⟨⟨t0, t1, t2, t3, rfl⟩, rfl⟩) (fun vs n0 h => by obtain ⟨⟨t0, t1, t2, t3, rfl⟩, rfl⟩ := h; exact mkI4)) (fun z => by cases z)) ret
  | false => exact d_done S.F S.N D.sh D.row (rd := 0) (rs1 := 0) (rs2 := 0) (imm := 0) (csr := 0) (by simp [decF, nk, hf]) (EV.ite (b := false) (.tv fun h F N => by rw [← hf]; exact .eqS (.name (cn := "decode") (cs := scF32) (L := L) (a := 1077) (ccd := .ref 1076) (cl := []) F D.kind ⟨k0, rfl⟩) (.constS _ _ _)) (fun z => by cases z) (fun _ => d_call S.B S.X S.T hd hu (Pa := fun vs n0 => (∃ t0 : Tok, vs = [.str nm t0]) ∧ n0 = n) (.consS (d_name S.X D) fun t0 => .nil ⟨⟨t0, rfl⟩, rfl⟩) (fun vs n0 h => by obtain ⟨⟨t0, rfl⟩, rfl⟩ := h; exact mkI1))) ret
theorem dec_tail {s : Shared} {Q : Flow → Shared → Prop} {E : Value → Shared → Prop} (S : Sit w mean mg mb A₀ base outer g L m n s.heap) (hd : dp + 4 ≤ 900) (hu : un + 80 ≤ 9000) (D : DC x t ad nm kd o th sv k0 k1 k2 k3 k4 m)
    (ret : ∀ r n' h' tk' m', Decoded n x r n' → Fr g L h' m' → News g L h' n' → Q (.ret r) { s with heap := h', toks := tk' }) :
    wpAny (model pr w) (dA dp un gd L outer) (execs (bdF32.drop 5) (dE L)) Q E s := by
  refine st_if (b := kd == "I") (.eqS (.name (cn := "decode") (cs := scF32) (L := L) (a := 1077) (ccd := .ref 1076) (cl := []) S.F D.kind ⟨k0, rfl⟩) (.constS _ _ _)) ?_
  intro tk0
  cases h0 : (kd == ("I" : Str)) with
  | true =>
    obtain rfl : kd = "I" := eq_of_beq h0
    rw [if_pos rfl]
    exact dec_I (s := { s with toks := tk0 }) S hd hu D ret
  | false =>
  rw [if_neg (by decide)]
  refine nextStep ?_
  refine st_if (b := kd == "R") (.eqS (.name (cn := "decode") (cs := scF32) (L := L) (a := 1077) (ccd := .ref 1076) (cl := []) S.F D.kind ⟨k0, rfl⟩) (.constS _ _ _)) ?_
  intro tk1
  cases h1 : (kd == ("R" : Str)) with
  | true =>
    obtain rfl : kd = "R" := eq_of_beq h1
    rw [if_pos rfl]
    exact dec_R (s := { s with toks := tk1 }) S hd hu D ret
  | false =>
  rw [if_neg (by decide)]
  refine nextStep ?_
  refine st_if (b := kd == "B") (.eqS (.name (cn := "decode") (cs := scF32) (L := L) (a := 1077) (ccd := .ref 1076) (cl := []) S.F D.kind ⟨k0, rfl⟩) (.constS _ _ _)) ?_
  intro tk2
  cases h2 : (kd == ("B" : Str)) with
  | true =>
    obtain rfl : kd = "B" := eq_of_beq h2
    rw [if_pos rfl]
    exact dec_B (s := { s with toks := tk2 }) S hd hu D ret
  | false =>
  rw [if_neg (by decide)]
  refine nextStep ?_
  refine st_if (b := kd == "S") (.eqS (.name (cn := "decode") (cs := scF32) (L := L) (a := 1077) (ccd := .ref 1076) (cl := []) S.F D.kind ⟨k0, rfl⟩) (.constS _ _ _)) ?_
  intro tk3
  cases h3 : (kd == ("S" : Str)) with
  | true =>
    obtain rfl : kd = "S" := eq_of_beq h3
    rw [if_pos rfl]
    exact dec_S (s := { s with toks := tk3 }) S hd hu D ret
  | false =>
  rw [if_neg (by decide)]
  refine nextStep ?_
  refine st_if (b := kd == "U") (.eqS (.name (cn := "decode") (cs := scF32) (L := L) (a := 1077) (ccd := .ref 1076) (cl := []) S.F D.kind ⟨k0, rfl⟩) (.constS _ _ _)) ?_
  intro tk4
  cases h4 : (kd == ("U" : Str)) with
  | true =>
    obtain rfl : kd = "U" := eq_of_beq h4
    rw [if_pos rfl]
    exact dec_U (s := { s with toks := tk4 }) S hd hu D ret
  | false =>
  rw [if_neg (by decide)]
  refine nextStep ?_
  refine st_if (b := kd == "J") (.eqS (.name (cn := "decode") (cs := scF32) (L := L) (a := 1077) (ccd := .ref 1076) (cl := []) S.F D.kind ⟨k0, rfl⟩) (.constS _ _ _)) ?_
  intro tk5
  cases h5 : (kd == ("J" : Str)) with
  | true =>
    obtain rfl : kd = "J" := eq_of_beq h5
    rw [if_pos rfl]
    exact dec_J (s := { s with toks := tk5 }) S hd hu D ret
  | false =>
  rw [if_neg (by decide)]
  refine nextStep ?_
  refine st_if (b := kd == "shift") (.eqS (.name (cn := "decode") (cs := scF32) (L := L) (a := 1077) (ccd := .ref 1076) (cl := []) S.F D.kind ⟨k0, rfl⟩) (.constS _ _ _)) ?_
  intro tk6
  cases h6 : (kd == ("shift" : Str)) with
  | true =>
    obtain rfl : kd = "shift" := eq_of_beq h6
    rw [if_pos rfl]
    exact dec_shift (s := { s with toks := tk6 }) S hd hu D ret
  | false =>
  rw [if_neg (by decide)]
  refine nextStep ?_
  refine st_if (b := kd == "fence") (.eqS (.name (cn := "decode") (cs := scF32) (L := L) (a := 1077) (ccd := .ref 1076) (cl := []) S.F D.kind ⟨k0, rfl⟩) (.constS _ _ _)) ?_
  intro tk7
  cases h7 : (kd == ("fence" : Str)) with
  | true =>
    obtain rfl : kd = "fence" := eq_of_beq h7
    rw [if_pos rfl]
    exact dec_fence (s := { s with toks := tk7 }) S hd hu D ret
  | false =>
  rw [if_neg (by decide)]
  refine nextStep ?_
  refine st_if (b := kd == "CSR") (.eqS (.name (cn := "decode") (cs := scF32) (L := L) (a := 1077) (ccd := .ref 1076) (cl := []) S.F D.kind ⟨k0, rfl⟩) (.constS _ _ _)) ?_
  intro tk8
  cases h8 : (kd == ("CSR" : Str)) with
  | true =>
    obtain rfl : kd = "CSR" := eq_of_beq h8
    rw [if_pos rfl]
    exact dec_CSR (s := { s with toks := tk8 }) S hd hu D ret
  | false =>
  rw [if_neg (by decide)]
  refine nextStep ?_
  refine st_if (b := kd == "CSRI") (.eqS (.name (cn := "decode") (cs := scF32) (L := L) (a := 1077) (ccd := .ref 1076) (cl := []) S.F D.kind ⟨k0, rfl⟩) (.constS _ _ _)) ?_
  intro tk9
  cases h9 : (kd == ("CSRI" : Str)) with
  | true =>
    obtain rfl : kd = "CSRI" := eq_of_beq h9
    rw [if_pos rfl]
    exact dec_CSRI (s := { s with toks := tk9 }) S hd hu D ret
  | false =>
  rw [if_neg (by decide)]
  refine nextStep ?_
  refine dec_end (s := { s with toks := tk9 }) S hd hu D ret ?_
  intro k hk
  simp only [List.mem_cons, List.not_mem_nil, or_false] at hk
  rcases hk with rfl | rfl | rfl | rfl | rfl | rfl | rfl | rfl | rfl | rfl
  all_goals assumption
end
theorem dec {w : World} {mean : ExcName → Option Value} {mg mb : Str → Option Value} {news : Led} {x : Int} {t : Tok} (hx : x.natAbs < 2 ^ 33) :
    CallR w mean mg mb 1077 6 [.int x t] news (fun r n => Decoded news x r n ∧ badW x = false) (badW x = true) := by
  refine CallR.of (fo1077 _) (co1077 _) (binds := [("word", .int x t)]) (by kernel_rfl) ?_
  intro dp un gd outer A₀ base g L s Q E S hd hu ret rai
  have nm := fun p => PV.nameI (prog := pr) (w := w) (A := ktrTop dp un gd (Str.ofString "decode") scF32 L 1077 (Value.ref 1076) [] outer) (cn := "decode") (cs := scF32) (a := 1077) (ccd := .ref 1076) (cl := []) (x := "word") (pos := p) (i := x) (t := t) S.F rfl
  refine st_if (b := decide (x < 0) || (x.fdiv (2 ^ 32) != 0)) (.or2 (.ltI (nm _) (.const 0 _ _)) fun _ => .int (.shr (nm _) (.const 32 _ _))) ?_
  intro tk
  cases hb : (decide (x < 0) || (x.fdiv (2 ^ 32) != 0)) with
  | true =>
    rw [if_pos rfl]
    refine wpAny_execs_cons (raise_BI (s := { s with toks := tk }) ⟨S.B, S.F, S.X, S.N, S.T⟩ (by omega) (by omega) rfl hx fun e h' tk' h t' v ow F' N' => ?_)
    exact rai e h' tk' h t' v _ (by unfold badW; rw [hb]; rfl) ow F' N'
  | false =>
    rw [if_neg (by decide)]
    refine nextStep ?_
    refine st_assignE (a := ⟨ktrTop dp un gd (Str.ofString "decode") scF32 L 1077 (Value.ref 1076) [] outer, envX "decode" scF32 L 1077 (.ref 1076) [], g, L, _⟩) rfl rfl S.F S.N (EV.call rfl S.B S.X S.T (f := 1070) (Pa := fun vs n => vs = [.int x t] ∧ n = news) (P := fun r n => r = shV (shapeOf x) ∧ n = news) (by kernel_rfl) (by kernel_rfl) (EVs.cons (P := Same news (· = .int x t)) (EV.nameL rfl rfl rfl rfl) fun v n hv => EVs.nil ⟨by rw [hv.1], hv.2⟩) (fun vs n h => by obtain ⟨rfl, rfl⟩ := h; exact fs) (d := 1) (by omega) (by omega)) ?_
    intro v n h1 tk1 hv F1 N1
    obtain ⟨rfl, rfl⟩ := hv
    refine st_if (b := shV (shapeOf x) == .none) (.isNone (.name F1 rfl rfl) (.constN _ _)) ?_
    intro tk2
    cases hs : shapeOf x with
    | none =>
      rw [if_pos (by decide)]
      refine wpAny_execs_cons (raise_BI (s := { s with heap := h1, toks := tk2 }) ⟨S.B, F1, S.X, N1, S.T⟩ (by omega) (by omega) rfl hx fun e h' tk' h t' v ow F' N' => ?_)
      exact rai e h' tk' h t' v _ (by unfold badW; rw [hb, hs]; rfl) ow F' N'
    | some ad =>
      rw [if_neg (by show ¬ ((Value.ref ad == .none) = true); simp)]
      rw [hs] at F1
      refine nextStep ?_
      obtain ⟨⟨nm0, kd, o0, th0, sv0⟩, hr⟩ := shape_row hs
      obtain ⟨sl, dx, es, ns, H⟩ := shp_at (S.X.keeps F1.keep) hr
      obtain ⟨kt, hkd⟩ := H.kind
      have nmw := fun {h : Heap} {m : Str → Option Value} (F : Fr g L h m) (p : Pos) (e : m "word" = some (.int x t)) => PV.nameI (prog := pr) (w := w) (A := ktrTop dp un gd (Str.ofString "decode") scF32 L 1077 (Value.ref 1076) [] outer) (cn := "decode") (cs := scF32) (a := 1077) (ccd := .ref 1076) (cl := []) (x := "word") (pos := p) (i := x) (t := t) F e
      refine wpAny_execs_cons (Assign_Tuple (Tuple_ ?_))
      refine spliced_more ((PV.shAttr F1 S.X (at_ := none) (.name F1 rfl rfl) H.at_ (by kernel_rfl) (by kernel_rfl) (by kernel_rfl) rfl hkd rfl).use fun v0 tk3 h0 => ?_)
      refine spliced_more ((PV.and_ (.shr (nmw F1 _ rfl) (.const 7 _ _)) (.const 31 _ _)).use fun v1 tk4 h1' => ?_)
      refine spliced_more ((PV.and_ (.shr (nmw F1 _ rfl) (.const 15 _ _)) (.const 31 _ _)).use fun v2 tk5 h2' => ?_)
      refine spliced_more ((PV.and_ (.shr (nmw F1 _ rfl) (.const 20 _ _)) (.const 31 _ _)).use fun v3 tk6 h3' => ?_)
      refine spliced_none ?_
      obtain ⟨k0, rfl⟩ := h0
      obtain ⟨k1, rfl⟩ := h1'
      obtain ⟨k2, rfl⟩ := h2'
      obtain ⟨k3, rfl⟩ := h3'
      refine newTuple_N (s := { s with heap := h1, toks := tk6 }) F1 N1 fun h2 F2 N2 => ?_
      refine unpackN_ (s := { s with heap := h2, toks := tk6 }) F2 N2 (News.isTup N2 (.head _)) rfl rfl rfl fun h3 F3 N3 => ?_
      refine assignInOrder_cons (assign_Name (storeX_L F3 N3 fun h4 F4 N4 => ?_))
      refine assignInOrder_cons (assign_Name (storeX_L F4 N4 fun h5 F5 N5 => ?_))
      refine assignInOrder_cons (assign_Name (storeX_L F5 N5 fun h6 F6 N6 => ?_))
      refine assignInOrder_cons (assign_Name (storeX_L F6 N6 fun h7 F7 N7 => ?_))
      refine assignInOrder_nil ?_
      have N7' : News g L h7 n := News.sub N7 fun p hp => .tail _ hp
      refine st_assign (x := "high") F7 N7' (P := IsI (x.fdiv (2 ^ 20))) (.shr (nmw F7 _ rfl) (.const 20 _ _)) ?_
      intro v h8 tk8 hv F8 N8
      obtain ⟨kh, rfl⟩ := hv
      have hx0 : 0 ≤ x := by
        rw [Bool.or_eq_false_iff] at hb
        have := hb.1
        simp only [decide_eq_false_iff_not] at this
        omega
      have hx1 : x < 2 ^ 32 := by
        rw [Bool.or_eq_false_iff] at hb
        have := hb.2
        simp only [bne_eq_false_iff_eq] at this
        rw [Int.fdiv_eq_ediv_of_nonneg _ (by decide)] at this
        omega
      exact dec_tail (s := { s with heap := h8, toks := tk8 }) ⟨S.B, F8, S.X, N8, S.T⟩ (by omega) (by omega) (x := x) (t := t) (ad := ad) (nm := nm0) (kd := kd) (o := o0) (th := th0) (sv := sv0) ⟨rfl, rfl, rfl, rfl, rfl, rfl, rfl, hs, hr, hx0, hx1⟩ fun r n' h' tk' m' p F' N' => ret _ r _ _ _ _ ⟨p, by unfold badW; rw [hb, hs]; rfl⟩ (.inl rfl) F' N'
end Mine
end
section
open PySem PySem.W PyProof.Rows PySem.Calls PyProof.V PySem.Spec
set_option maxHeartbeats 1000000
namespace Mine
noncomputable def pairsS (es : List DictEntry) : List (Str × Value) := es.filterMap fun e => match e.key with | .str i _ => some (i, e.val) | _ => none
noncomputable def allS (es : List DictEntry) : Bool := es.all fun e => match e.key with | .str _ _ => true | _ => false
noncomputable def keyS : Value → Str | .str x _ => x | _ => ""
theorem findBy_pairsS : ∀ (es : List DictEntry), allS es = true → ∀ k, findBy Value.isStrOf es.toArray k = (pairsS es).lookup k
  | [], _, _ => rfl
  | e :: es, h, k => by
    obtain ⟨h1, h2⟩ : _ ∧ allS es = true := by simpa only [allS, List.all_cons, Bool.and_eq_true] using h
    have ih := findBy_pairsS es h2 k
    obtain ⟨hsh, key, val⟩ := e
    cases key with
    | str i t =>
      simp only [findBy, List.find?_toArray, List.find?_cons, pairsS, List.filterMap_cons, List.lookup_cons, Value.isStrOf] at ih ⊢
      by_cases hk : i = k
      · subst hk; simp
      · have h3 : (i == k) = false := by simpa using hk
        have h4 : (k == i) = false := by simpa using fun q => hk q.symm
        rw [h3, h4]
        exact ih
    | _ => cases h1
theorem mapS_K {w : World} {h : Heap} (X : (K0 w.params).In h) {d : Addr} {es : List DictEntry} {n : Nat} (hl : (K0 w.params).lookup d = some ⟨.type "dict", none, .dict es.toArray n, #[]⟩) (ha : allS es = true)
    (hh : es.map (·.hash) = es.map fun e => PyData.keyHash w.params (keyS e.key)) : h.MapOf (strKind pr w) d (fun k => (pairsS es).lookup k) := by
  refine ⟨_, es.toArray, n, X _ _ hl, ⟨rfl, rfl, rfl⟩, rfl, fun e he => ?_, fun k => findBy_pairsS es ha k⟩
  have he' : e ∈ es := by simpa using he
  have h1 := List.map_inj_left.mp hh e he'
  have h2 := List.all_eq_true.mp ha e he'
  cases hk : e.key with
  | str x t => exact ⟨x, strKind_is pr w x t, by rw [h1, hk]; rfl⟩
  | _ => rw [hk] at h2; cases h2
theorem lookup_refsS (t : List (Str × Nat)) (k : Str) : (t.map fun p => (p.1, Value.ref p.2)).lookup k = (t.lookup k).map Value.ref := by
  induction t with
  | nil => rfl
  | cons p t ih =>
    obtain ⟨i, a⟩ := p
    simp only [List.map_cons, List.lookup_cons] at ih ⊢
    cases k == i <;> simp [ih]
noncomputable abbrev refsS (t : List (Str × Nat)) (k : Str) : Option Value := (t.lookup k).map Value.ref
theorem mapTS {w : World} {h : Heap} (X : (K0 w.params).In h) {d : Addr} {n : Nat} {t : List (Str × Nat)} (hl : (K0 w.params).lookup d = some ⟨.type "dict", none, .dict (esK w.params d).toArray n, #[]⟩) (ha : allS (esK w.params d) = true)
    (hh : (esK w.params d).map (·.hash) = (esK w.params d).map fun e => PyData.keyHash w.params (keyS e.key))
    (hp : pairsS (esK w.params d) = t.map fun p => (p.1, Value.ref p.2)) : h.MapOf (strKind pr w) d (refsS t) := by
  have := mapS_K X hl ha hh
  rw [hp] at this
  simpa only [lookup_refsS] using this
theorem mapName {w : World} {h : Heap} (X : (K0 w.params).In h) : h.MapOf (strKind pr w) 734 (refsS tName) := mapTS X (n := 59) (by kernel_rfl) (by kernel_rfl) (by kernel_rfl) (by kernel_rfl)
noncomputable def tUsed : List (Str × Nat) := [("R", 994), ("I", 995), ("S", 996), ("B", 997), ("U", 998), ("J", 999), ("shift", 1000), ("fence", 1001), ("CSR", 1002), ("CSRI", 1003), ("flush", 1004), ("system", 1005)]
noncomputable def tRng : List (Str × Nat) := [("I", 1007), ("S", 1008), ("B", 1009), ("U", 1010), ("J", 1011), ("shift", 1012), ("fence", 1013), ("CSRI", 1014)]
theorem mapUsed {w : World} {h : Heap} (X : (K0 w.params).In h) : h.MapOf (strKind pr w) 993 (refsS tUsed) := mapTS X (n := 12) (by kernel_rfl) (by kernel_rfl) (by kernel_rfl) (by kernel_rfl)
theorem mapRng {w : World} {h : Heap} (X : (K0 w.params).In h) : h.MapOf (strKind pr w) 1006 (refsS tRng) := mapTS X (n := 8) (by kernel_rfl) (by kernel_rfl) (by kernel_rfl) (by kernel_rfl)
section
variable {w : World} {A : Around} {env : Env} {h : Heap}
theorem TV.notinStr {l r : Expr} {pos : Pos} {k : Str} {d : Addr} {f : Str → Option Value} (x : PV pr w A env h l (IsS k)) (y : PV pr w A env h r (· = .ref d)) (hd : (d == sysModules) = false) (hm : h.MapOf (strKind pr w) d f)
    (hmk : behindInMarks .NotIn r = false := by with_unfolding_all rfl) : TV pr w A env h (.Compare l [.NotIn] [r] pos) (!(f k).isSome) :=
  .cmp x y (fun s u v Q E hs hu hv q => by
    obtain ⟨t, rfl⟩ := hu
    subst hv
    exact wpAny_notIn_of (strKind_is pr w k t) hd (by rw [hs]; exact hm) (q _)) hmk
theorem PV.itemStr {value slice : Expr} {pos : Pos} {k : Str} {d : Addr} {f : Str → Option Value} {v : Value} (x : PV pr w A env h value (· = .ref d)) (y : PV pr w A env h slice (IsS k)) (hm : h.MapOf (strKind pr w) d f) (hv : f k = some v)
    (hs' : ∀ t, subscripted slice false (.ref d) (.str k t) = operate [.ref d, .str k t] (getItem (.ref d) (.str k t)) := by intro _; with_unfolding_all rfl) : PV pr w A env h (.Subscript value slice pos) (· = v) := fun s Q E hs q =>
  Subscript_ (x s _ _ hs fun u tk hu => by
    subst hu
    refine y _ _ _ hs fun i tk' hi => ?_
    obtain ⟨t, rfl⟩ := hi
    have hm' : ({ s with toks := tk' } : Shared).heap.MapOf (strKind pr w) d f := by show s.heap.MapOf _ _ _; rw [hs]; exact hm
    exact tail_any hm'.typeIs slot_dict_getitem.lookup (wpAny_getItem_of (strKind_is pr w k t) hm' hv (q v _ rfl)) (hs' t))
end
theorem so {w : World} {mean : ExcName → Option Value} {mg mb : Str → Option Value} {news : Led} {x : Str} {t : Tok} {a : Nat} (ha : tName.lookup x = some a) :
    Call w mean mg mb 1021 1 [.str x t] news (fun r n => r = .ref a ∧ n = news) := by
  refine Call.of (fo1021 _) (co1021 _) (binds := [("name", .str x t)]) (by kernel_rfl) ?_
  intro dp un gd outer A₀ base g L s Q E S hd hu ret
  have nm := fun p => PV.name (prog := pr) (w := w) (A := ktrTop dp un gd (Str.ofString "shape_of") scF24 L 1021 (Value.ref 1020) [] outer) (cn := "shape_of") (cs := scF24) (a := 1021) (ccd := .ref 1020) (cl := []) (x := "name") (pos := p) (P := IsS x) S.F (hv := rfl) ⟨t, rfl⟩
  have kn : ∀ {h : Heap} {m : Str → Option Value} (F : Fr g L h m) (np pos : Pos) (attr : Str) (v : Value), findCls (K0 w.params) (.ref 988) (.type "type") attr = some (.val v) → handedIn v = true → PV pr w (ktrTop dp un gd (Str.ofString "shape_of") scF24 L 1021 (Value.ref 1020) [] outer) (envX "shape_of" scF24 L 1021 (Value.ref 1020) []) h (.Attribute (.Name "Known" np) attr pos) (· = v) :=
    fun F np pos attr v e hh => .clsAttr (C := 988) (mc := .type "type") F S.X S.T (by kernel_rfl) (by kernel_rfl) (by kernel_rfl) e hh rfl
  refine st_if (b := !(refsS tName x).isSome) (.notinStr (nm _) (kn S.F _ _ "BY_NAME" (.ref 734) (by kernel_rfl) rfl) (by decide) (mapName S.K)) ?_
  intro tk
  simp only [refsS, ha, Option.map_some, Option.isSome_some, Bool.not_true, Bool.false_eq_true, if_false]
  refine nextStep ?_
  refine st_return (.itemStr (kn S.F _ _ "BY_NAME" (.ref 734) (by kernel_rfl) rfl) (nm _) (mapName S.K) (v := .ref a) (by rw [refsS, ha]; rfl)) ?_
  intro v tk' hv
  exact ret _ v _ _ _ _ ⟨hv, rfl⟩ (.inl rfl) S.F S.N
section
variable {w : World} {A : Around} {env : Env} {h : Heap} {g : Heap} {L : Addr} {m : Str → Option Value}
theorem PV.attrI {x attr : Str} {np pos : Pos} {o C : Addr} {ox : Obj} {es : List DictEntry} {n : Nat} {i : Int} {at_ : Option Value}
    (F : Fr g L h m) (X : (K0 w.params).In g) (nm : PV pr w A env h (.Name x np) (· = .ref o)) (I : InstAt h o ox C (some (dictOf es n)))
    (hg : plainGet (K0 w.params) C attr = true) (hh : hasDictIn (K0 w.params) C = true) (ha : findIn (K0 w.params) (.ref C) attr = some at_) (hn : noGet (K0 w.params) at_ = true) (hl : ∃ t, getL attr es = some (some (.int i t))) :
    PV pr w A env h (.Attribute (.Name x np) attr pos) (IsI i) := by
  obtain ⟨t, hl⟩ := hl
  exact (PV.instAttr F X nm I hg hh ha hn hl rfl).mono fun v e => ⟨t, e⟩
theorem PV.attrS {x attr : Str} {np pos : Pos} {o C : Addr} {ox : Obj} {es : List DictEntry} {n : Nat} {i : Str} {at_ : Option Value}
    (F : Fr g L h m) (X : (K0 w.params).In g) (nm : PV pr w A env h (.Name x np) (· = .ref o)) (I : InstAt h o ox C (some (dictOf es n)))
    (hg : plainGet (K0 w.params) C attr = true) (hh : hasDictIn (K0 w.params) C = true) (ha : findIn (K0 w.params) (.ref C) attr = some at_) (hn : noGet (K0 w.params) at_ = true) (hl : ∃ t, getL attr es = some (some (.str i t))) :
    PV pr w A env h (.Attribute (.Name x np) attr pos) (IsS i) := by
  obtain ⟨t, hl⟩ := hl
  exact (PV.instAttr F X nm I hg hh ha hn hl rfl).mono fun v e => ⟨t, e⟩
end
noncomputable def fixF (o th sv : Int) : Int := Builtin.bitOr (Builtin.bitOr (sv * 2 ^ 25) (th * 2 ^ 12)) o
theorem shT_small : shT.all (fun r => decide (r.2.2.2.2.1.natAbs < 2 ^ 10) && decide (r.2.2.2.2.2.natAbs < 2 ^ 10)) = true := by kernel_rfl
theorem fx {w : World} {mean : ExcName → Option Value} {mg mb : Str → Option Value} {news : Led} {a : Nat} {nm kd : Str} {o th sv : Int} (hr : shT.lookup a = some (nm, kd, o, th, sv)) :
    Call w mean mg mb 124 1 [.ref a] news (fun r n => IsI (fixF o th sv) r ∧ n = news) := by
  refine Call.of (fo124 _) (co124 _) (binds := [("self", .ref a)]) (by kernel_rfl) ?_
  intro dp un gd outer A₀ base g L s Q E S hd hu ret
  have hsm := List.all_eq_true.mp shT_small _ (lookup_mem hr)
  simp only [Bool.and_eq_true, decide_eq_true_eq] at hsm
  obtain ⟨sl, dx, es, ns, H⟩ := shp_at S.K hr
  have nm := fun p => PV.name (prog := pr) (w := w) (A := ktrTop dp un gd (Str.ofString "Shape.fixed") scM18M1 L 124 (Value.ref 123) [] outer) (cn := "Shape.fixed") (cs := scM18M1) (a := 124) (ccd := .ref 123) (cl := []) (x := "self") (pos := p) (P := (· = .ref a)) S.F (hv := rfl) rfl
  refine st_return (P := IsI (fixF o th sv)) (.or_ (.or_ (.shl (.attrI S.F S.X (at_ := none) (nm _) H.at_ (by kernel_rfl) (by kernel_rfl) (by kernel_rfl) rfl H.seventh) (.const 25 _ _) (by decide) (by omega)) (.shl (.attrI S.F S.X (at_ := none) (nm _) H.at_ (by kernel_rfl) (by kernel_rfl) (by kernel_rfl) rfl H.third) (.const 12 _ _) (by decide) (by omega))) (.attrI S.F S.X (at_ := none) (nm _) H.at_ (by kernel_rfl) (by kernel_rfl) (by kernel_rfl) rfl H.opcode)) ?_
  intro v tk' hv
  exact ret _ v _ _ _ _ ⟨hv, rfl⟩ (.inl rfl) S.F S.N
section
variable {w : World} {A : Around} {env : Env} {s : Shared} {g : Heap} {m : Str → Option Value} {news : Led}
theorem for_items {Q : Flow → Shared → Prop} {o : Expr} {apos pos tpos fpos : Pos} {elts : List Expr} {kk : Nat} {body : List Stmt} {d : Addr} {od : Obj} {kvs : List (Str × Value)}
    (hh : A.handled = none) (F : Fr g env.locals s.heap m) (N : News g env.locals s.heap news) (hm : (d, od) ∈ news) (hd : od.IsDictOf (strKind pr w) kvs) (lo : (d == sysModules) = false)
    (ov : ∀ (Q' : Value → Shared → Prop) (E : Value → Shared → Prop), Q' (.ref d) s → wpAny (model pr w) A (eval o env) Q' E s)
    (hbase : attributeBase o "items" env (eval o env) = eval o env) (hline : (apos.endLine == pos.line) = true)
    (J : Nat → (Str → Option Value) → Prop) (h0 : J 0 m)
    (step : ∀ i k v T t h tk m₁ led, kvs[i]? = some (k, v) → J i m₁ → Fr g env.locals h m₁ → News g env.locals h led → (∀ p ∈ news, p ∈ led) → h.IsTuple T #[.str k t, v] →
      wpAny (model pr w) A (assign (.Tuple elts kk tpos) env (.ref T)) (fun _ s₂ => wpAny (model pr w) A (execs body env) (fun f s' => f = .next ∧ ∃ h' tk m', s' = { s with heap := h', toks := tk } ∧ Fr g env.locals h' m' ∧ News g env.locals h' led ∧ J (i + 1) m') (fun _ _ => False) s₂) (fun _ _ => False) { s with heap := h, toks := tk })
    (k : ∀ h' tk m', Fr g env.locals h' m' → News g env.locals h' news → J kvs.length m' → Q .next { s with heap := h', toks := tk })
    (hs : ∀ x, foldedSetIterable (.Call (.Attribute o "items" apos) [] [] pos) env x = pure x := by intro _; rfl) :
    wpAny (model pr w) A (exec (.For (.Tuple elts kk tpos) (.Call (.Attribute o "items" apos) [] [] pos) body [] fpos) env) Q (fun _ _ => False) s := by
  obtain ⟨ep, hat⟩ := (kda_dict N hm hd).dictAt
  refine For_turns F ?_ hs (PassesOwn.never)
  refine wpAny_Call_items lo (kda_dict N hm hd) hbase hline (fun Q' q => ov Q' _ q) ?_
  have hat1 := hat.push { cls := .type "dict_items", data := .fields #[.ref d] }
  refine wpAny_pyIter_items ⟨_, Heap.get?_push_size _ rfl, rfl, rfl⟩ hat1 ?_
  have F1 := (F.push { cls := .type "dict_items", data := .fields #[.ref d] })
  have N1 : News g env.locals (s.heap.push { cls := .type "dict_items", data := .fields #[.ref d] }) news := fun p hp => ⟨Heap.get?_push_of_some _ (N p hp).1, (N p hp).2⟩
  generalize hg1 : s.heap.push { cls := .type "dict_items", data := .fields #[.ref d] } = h1 at *
  have hlt : d < h1.objs.size := hat1.lt_size
  have hne : d ≠ h1.objs.size := Nat.ne_of_lt hlt
  have hL : env.locals < h1.objs.size := F1.ns.lt
  refine ⟨h1.objs.size, [h1.objs.size, d], [h1.objs.size], kvs.length, _, _, _, m, news, fun i m' n' => n' = news ∧ J i m', rfl, kti_itemsTurns (knd := strKind pr w) hh h1.objs.size d hne kvs ep, ?_, ?_, ?_, ?_, F1.push _, fun p hp => ⟨Heap.get?_push_of_some _ (N1 p hp).1, (N1 p hp).2⟩, ⟨rfl, h0⟩, ?_, ?_⟩
  · intro hb
    rcases List.mem_cons.mp hb with z | hb
    · exact absurd hL (by rw [z]; exact Nat.lt_irrefl _)
    · exact (N1 _ hm).2.1 (List.mem_singleton.mp hb).symm
  · intro b hb
    rw [List.mem_singleton.mp hb]
    exact next_is_new F1
  · intro p hp hb
    have := Heap.lt_size (N1 p hp).1
    rw [List.mem_singleton.mp hb] at this
    exact absurd this (Nat.lt_irrefl _)
  · exact ⟨⟨.none, .none, Heap.get?_push_size _ rfl⟩, hat1.push _⟩
  · rintro i v m₁ news₁ h₁ tk₁ own hi ⟨T, key, k', x, rfl, hx, hk, hT⟩ ⟨rfl, hJ⟩ hw - - - - F2 N2
    obtain ⟨t, rfl⟩ : ∃ t, key = .str k' t := Value.isStrOf_shape hk
    refine wpAny_mono (step i k' x T t h₁ tk₁ m₁ (own ++ news₁) hx hJ F2 N2 (fun p hp => List.mem_append_right _ hp) hT) (fun _ s₂ h₂ => wpAny_mono h₂ (fun f s' hf => ?_) fun _ _ e => e) fun _ _ e => e
    obtain ⟨rfl, h', tk, m', rfl, F3, N3, hJ3⟩ := hf
    exact .next (.intro F3 N3 hw ⟨rfl, hJ3⟩)
  · rintro h' tk m' news' F2 N2 - ⟨rfl, hJ⟩
    exact k h' tk m' F2 N2 hJ
end
section
variable {w : World} {A : Around} {env : Env} {h : Heap}
theorem TV.notinT {l r : Expr} {pos : Pos} {k : Str} {d : Addr} {items : Array Value} {ys : List Str} (x : PV pr w A env h l (IsS k)) (y : PV pr w A env h r (· = .ref d)) (ht : IsTup h d items) (hi : StrsAre items.toList ys)
    (hmk : behindInMarks .NotIn r = false := by with_unfolding_all rfl) : TV pr w A env h (.Compare l [.NotIn] [r] pos) (!(ys.any (· == k))) :=
  .cmp x y (fun s u v Q E hs hu hv q => by
    obtain ⟨t, rfl⟩ := hu
    subst hv
    exact notin_tuple_strs (by rw [hs]; exact ht) hi (q s.toks)) hmk
theorem TV.chainII {l r₁ r₂ : Expr} {pos : Pos} {op : CmpOp} {a b c : Int} {p2 : Bool} (x : PV pr w A env h l (IsI a)) (y : PV pr w A env h r₁ (IsI b)) (z : PV pr w A env h r₂ (IsI c))
    (f : ∀ (s : Shared) (t u : Tok) (Q E : Value → Shared → Prop), Q (.bool p2) s → wpAny (model pr w) A (compareOp op (.int b t) (.int c u)) Q E s)
    (hm : lastMarks [.LtE, op] [r₁, r₂] = false := by with_unfolding_all rfl) : TV pr w A env h (.Compare l [.LtE, op] [r₁, r₂] pos) (decide (a ≤ b) && p2) := fun s Q E hs q => by
  refine isTrue_chain (x _ _ _ hs fun u tk hu => ?_) hm
  obtain ⟨t, rfl⟩ := hu
  refine test_link (y _ _ _ hs fun u tk' hu => ?_)
  obtain ⟨t', rfl⟩ := hu
  refine le_int (wpAny_truthy_bool ?_)
  by_cases hab : a ≤ b
  · rw [if_pos (by simpa using hab)]
    refine test_last (z _ _ _ hs fun u tk'' hu => ?_)
    obtain ⟨t'', rfl⟩ := hu
    refine f _ _ _ _ _ (wpAny_truthy_bool ?_)
    rw [decide_eq_true hab, Bool.true_and] at q
    exact q _
  · rw [if_neg (by simpa using hab)]
    rw [decide_eq_false hab, Bool.false_and] at q
    exact q _
theorem TV.leI {l r₁ r₂ : Expr} {pos : Pos} {a b c : Int} (x : PV pr w A env h l (IsI a)) (y : PV pr w A env h r₁ (IsI b)) (z : PV pr w A env h r₂ (IsI c)) (hm : lastMarks [.LtE, .LtE] [r₁, r₂] = false := by with_unfolding_all rfl) :
    TV pr w A env h (.Compare l [.LtE, .LtE] [r₁, r₂] pos) (decide (a ≤ b) && decide (b ≤ c)) := .chainII x y z (fun s t u Q E q => le_int q) hm
theorem TV.leltI {l r₁ r₂ : Expr} {pos : Pos} {a b c : Int} (x : PV pr w A env h l (IsI a)) (y : PV pr w A env h r₁ (IsI b)) (z : PV pr w A env h r₂ (IsI c)) (hm : lastMarks [.LtE, .Lt] [r₁, r₂] = false := by with_unfolding_all rfl) :
    TV pr w A env h (.Compare l [.LtE, .Lt] [r₁, r₂] pos) (decide (a ≤ b) && decide (b < c)) := .chainII x y z (fun s t u Q E q => lt_int q) hm
end
section
variable {w : World} {A : Around} {g h : Heap} {L f : Addr} {m : Str → Option Value} {cn : Str} {cs : Scope} {ccd : Value} {cl : List (Str × Addr)} {mean : ExcName → Option Value} {mg mb : Str → Option Value}
theorem PV.isInt {np yp ip pos : Pos} {y : Str} {i : Int} {t : Tok} (F : Fr g L h m) (X : (K0 w.params).In g) (T : Top qv (looseW qv looseL) mean mg mb g) (hy : m y = some (.int i t))
    (hk : cs.kind = .function := by rfl) (h1 : (envX cn cs L f ccd cl).kindOf "isinstance" = some .globalImplicit := by rfl) (h2 : (envX cn cs L f ccd cl).kindOf "int" = some .globalImplicit := by rfl) (h3 : (envX cn cs L f ccd cl).kindOf y = some .local := by rfl) (hd : (y == ("__debug__" : Str)) = false := by decide) :
    PV pr w A (envX cn cs L f ccd cl) h (.Call (.Name "isinstance" np) [.Name y yp, .Name "int" ip] [] pos) (· = .bool true) := fun s Q E hs q => by
  subst hs
  refine wpAny_Call_ofName (nameX_B F X (topRead_of T) (v := .builtin "isinstance") (by kernel_rfl) PyProof.Rows.boot_isinstance (by decide) ?_ hk h1 (by decide))
  refine PyProof.Rows.callWith_builtin1 (spliced_more (nameX_L F hy ?_ hk h3 hd))
  refine spliced_more (nameX_B F X (topRead_of T) (v := .type "int") (by kernel_rfl) PyProof.Rows.Boot.«int» (by decide) ?_ hk h2 (by decide))
  exact spliced_none (call_isinstance_yes (Tx := "int") (T := "int") (by rfl) (by rfl) (by rfl) (q _ s.toks rfl))
theorem PV.isBool {np yp ip pos : Pos} {y : Str} {i : Int} {t : Tok} (F : Fr g L h m) (X : (K0 w.params).In g) (T : Top qv (looseW qv looseL) mean mg mb g) (hy : m y = some (.int i t))
    (hk : cs.kind = .function := by rfl) (h1 : (envX cn cs L f ccd cl).kindOf "isinstance" = some .globalImplicit := by rfl) (h2 : (envX cn cs L f ccd cl).kindOf "bool" = some .globalImplicit := by rfl) (h3 : (envX cn cs L f ccd cl).kindOf y = some .local := by rfl) (hd : (y == ("__debug__" : Str)) = false := by decide) :
    PV pr w A (envX cn cs L f ccd cl) h (.Call (.Name "isinstance" np) [.Name y yp, .Name "bool" ip] [] pos) (· = .bool false) := fun s Q E hs q => by
  subst hs
  refine wpAny_Call_ofName (nameX_B F X (topRead_of T) (v := .builtin "isinstance") (by kernel_rfl) PyProof.Rows.boot_isinstance (by decide) ?_ hk h1 (by decide))
  refine PyProof.Rows.callWith_builtin1 (spliced_more (nameX_L F hy ?_ hk h3 hd))
  refine spliced_more (nameX_B F X (topRead_of T) (v := .type "bool") (by kernel_rfl) PyProof.Rows.Boot.«bool» (by decide) ?_ hk h2 (by decide))
  refine spliced_none (call_isinstance (isinstance_false_int (by decide) (by rfl) (by rfl)) ?_)
  exact q _ _ rfl
end
noncomputable def kindTab : List (Str × List Str × Option (Int × Int × Int)) := [("R", ["rd", "rs1", "rs2"], none), ("I", ["rd", "rs1", "imm"], some (-2048, 2047, 1)), ("S", ["rs1", "rs2", "imm"], some (-2048, 2047, 1)), ("B", ["rs1", "rs2", "imm"], some (-4096, 4094, 2)), ("U", ["rd", "imm"], some (0, 1048575, 1)), ("J", ["rd", "imm"], some (-1048576, 1048574, 2)), ("shift", ["rd", "rs1", "imm"], some (0, 31, 1)), ("fence", ["rd", "rs1", "imm"], some (0, 4095, 1)), ("CSR", ["rd", "rs1", "csr"], none), ("CSRI", ["rd", "imm", "csr"], some (0, 31, 1)), ("flush", ["rs1", "rs2"], none), ("system", [], none)]
structure KindAt (P : Params) (kd : Str) (us : List Str) (rg : Option (Int × Int × Int)) : Prop where
  used : ∃ ua items, tUsed.lookup kd = some ua ∧ (K0 P).lookup ua = some ⟨.type "tuple", none, .seq items 0, #[]⟩ ∧ StrsAre items.toList us
  rng : ∀ lo hi st, rg = some (lo, hi, st) → ∃ ra t0 t1 t2, tRng.lookup kd = some ra ∧ (K0 P).lookup ra = some ⟨.type "tuple", none, .seq #[.int lo t0, .int hi t1, .int st t2] 0, #[]⟩
noncomputable def okField (us : List Str) (rg : Option (Int × Int × Int)) (nm : Str) (i : Int) : Bool :=
  if us.any (· == nm) then (if nm == "imm" then (match rg with | some (lo, hi, st) => (decide (lo ≤ i) && decide (i ≤ hi)) && (i.fmod st == 0) && (st != 0) | none => false) else decide (0 ≤ i) && decide (i < if nm == "csr" then 4096 else 32)) else i == 0
theorem kindAt_R (P : Params) : KindAt P "R" ["rd", "rs1", "rs2"] (none) := ⟨⟨994, #[.str "rd" 3831, .str "rs1" 3832, .str "rs2" 3833], by rfl, by kernel_rfl, .cons _ _ (.cons _ _ (.cons _ _ .nil))⟩, fun lo hi st e => by cases e⟩
theorem kindAt_I (P : Params) : KindAt P "I" ["rd", "rs1", "imm"] (some ((-2048), 2047, 1)) := ⟨⟨995, #[.str "rd" 3835, .str "rs1" 3836, .str "imm" 3837], by rfl, by kernel_rfl, .cons _ _ (.cons _ _ (.cons _ _ .nil))⟩, fun lo hi st e => by cases e; exact ⟨1007, 3887, 3888, 3889, by rfl, by kernel_rfl⟩⟩
theorem kindAt_S (P : Params) : KindAt P "S" ["rs1", "rs2", "imm"] (some ((-2048), 2047, 1)) := ⟨⟨996, #[.str "rs1" 3839, .str "rs2" 3840, .str "imm" 3841], by rfl, by kernel_rfl, .cons _ _ (.cons _ _ (.cons _ _ .nil))⟩, fun lo hi st e => by cases e; exact ⟨1008, 3892, 3893, 3894, by rfl, by kernel_rfl⟩⟩
theorem kindAt_B (P : Params) : KindAt P "B" ["rs1", "rs2", "imm"] (some ((-4096), 4094, 2)) := ⟨⟨997, #[.str "rs1" 3843, .str "rs2" 3844, .str "imm" 3845], by rfl, by kernel_rfl, .cons _ _ (.cons _ _ (.cons _ _ .nil))⟩, fun lo hi st e => by cases e; exact ⟨1009, 3897, 3898, 3899, by rfl, by kernel_rfl⟩⟩
theorem kindAt_U (P : Params) : KindAt P "U" ["rd", "imm"] (some (0, 1048575, 1)) := ⟨⟨998, #[.str "rd" 3847, .str "imm" 3848], by rfl, by kernel_rfl, .cons _ _ (.cons _ _ .nil)⟩, fun lo hi st e => by cases e; exact ⟨1010, 3901, 3902, 3903, by rfl, by kernel_rfl⟩⟩
theorem kindAt_J (P : Params) : KindAt P "J" ["rd", "imm"] (some ((-1048576), 1048574, 2)) := ⟨⟨999, #[.str "rd" 3850, .str "imm" 3851], by rfl, by kernel_rfl, .cons _ _ (.cons _ _ .nil)⟩, fun lo hi st e => by cases e; exact ⟨1011, 3906, 3907, 3908, by rfl, by kernel_rfl⟩⟩
theorem kindAt_shift (P : Params) : KindAt P "shift" ["rd", "rs1", "imm"] (some (0, 31, 1)) := ⟨⟨1000, #[.str "rd" 3853, .str "rs1" 3854, .str "imm" 3855], by rfl, by kernel_rfl, .cons _ _ (.cons _ _ (.cons _ _ .nil))⟩, fun lo hi st e => by cases e; exact ⟨1012, 3910, 3911, 3912, by rfl, by kernel_rfl⟩⟩
theorem kindAt_fence (P : Params) : KindAt P "fence" ["rd", "rs1", "imm"] (some (0, 4095, 1)) := ⟨⟨1001, #[.str "rd" 3857, .str "rs1" 3858, .str "imm" 3859], by rfl, by kernel_rfl, .cons _ _ (.cons _ _ (.cons _ _ .nil))⟩, fun lo hi st e => by cases e; exact ⟨1013, 3914, 3915, 3916, by rfl, by kernel_rfl⟩⟩
theorem kindAt_CSR (P : Params) : KindAt P "CSR" ["rd", "rs1", "csr"] (none) := ⟨⟨1002, #[.str "rd" 3861, .str "rs1" 3862, .str "csr" 3863], by rfl, by kernel_rfl, .cons _ _ (.cons _ _ (.cons _ _ .nil))⟩, fun lo hi st e => by cases e⟩
theorem kindAt_CSRI (P : Params) : KindAt P "CSRI" ["rd", "imm", "csr"] (some (0, 31, 1)) := ⟨⟨1003, #[.str "rd" 3865, .str "imm" 3866, .str "csr" 3867], by rfl, by kernel_rfl, .cons _ _ (.cons _ _ (.cons _ _ .nil))⟩, fun lo hi st e => by cases e; exact ⟨1014, 3918, 3919, 3920, by rfl, by kernel_rfl⟩⟩
theorem kindAt_flush (P : Params) : KindAt P "flush" ["rs1", "rs2"] (none) := ⟨⟨1004, #[.str "rs1" 3869, .str "rs2" 3870], by rfl, by kernel_rfl, .cons _ _ (.cons _ _ .nil)⟩, fun lo hi st e => by cases e⟩
theorem kindAt_system (P : Params) : KindAt P "system" [] (none) := ⟨⟨1005, #[], by rfl, by kernel_rfl, .nil⟩, fun lo hi st e => by cases e⟩
theorem kindAt (P : Params) {kd : Str} {us : List Str} {rg : Option (Int × Int × Int)} (h : kindTab.lookup kd = some (us, rg)) : KindAt P kd us rg := by
  have hm := lookup_mem h
  simp only [kindTab, List.mem_cons, List.not_mem_nil, or_false, Prod.mk.injEq] at hm
  rcases hm with ⟨rfl, rfl, rfl⟩ | ⟨rfl, rfl, rfl⟩ | ⟨rfl, rfl, rfl⟩ | ⟨rfl, rfl, rfl⟩ | ⟨rfl, rfl, rfl⟩ | ⟨rfl, rfl, rfl⟩ | ⟨rfl, rfl, rfl⟩ | ⟨rfl, rfl, rfl⟩ | ⟨rfl, rfl, rfl⟩ | ⟨rfl, rfl, rfl⟩ | ⟨rfl, rfl, rfl⟩ | ⟨rfl, rfl, rfl⟩
  · exact kindAt_R P
  · exact kindAt_I P
  · exact kindAt_S P
  · exact kindAt_B P
  · exact kindAt_U P
  · exact kindAt_J P
  · exact kindAt_shift P
  · exact kindAt_fence P
  · exact kindAt_CSR P
  · exact kindAt_CSRI P
  · exact kindAt_flush P
  · exact kindAt_system P
end Mine
end
section
open PySem PySem.W PyProof.Rows PySem.Calls PyProof.V PySem.Spec
set_option maxHeartbeats 2000000
namespace Mine
theorem PV.nameG {w : World} {A : Around} {g h : Heap} {L f : Addr} {m : Str → Option Value} {cn : Str} {cs : Scope} {ccd : Value} {cl : List (Str × Addr)} {mean : ExcName → Option Value} {mg mb : Str → Option Value} {x : Str} {pos : Pos} {v : Value} (F : Fr g L h m) (X : (K0 w.params).In g) (T : Top qv (looseW qv looseL) mean mg mb g)
    (hf : nsIn (K0 w.params) mainGlobals x = some (some v)) (hk : cs.kind = .function := by rfl) (hx : (envX cn cs L f ccd cl).kindOf x = some .globalImplicit := by rfl) (hd : (x == ("__debug__" : Str)) = false := by decide) :
    PV pr w A (envX cn cs L f ccd cl) h (.Name x pos) (· = v) := fun s Q E hs q => by
  subst hs
  exact nameX_K F X (topRead_of T) hf (q v s.toks rfl) hk hx hd
noncomputable abbrev forB (l : List Stmt) (i : Nat) : List Stmt := match l[i]? with | some (.For _ _ b _ _) => b | _ => []
noncomputable abbrev cA (dp un : Nat) (gd : Option (List Code)) (L : Addr) (outer : List Env) : Around := ktrTop dp un gd (Str.ofString "check") scF25 L 1028 (Value.ref 1027) [] outer
noncomputable abbrev cE (L : Addr) : Env := envX "check" scF25 L 1028 (.ref 1027) []
section
variable {w : World} {mean : ExcName → Option Value} {mg mb : Str → Option Value} {g : Heap} {outer : List Env} {L : Addr} {m₁ : Str → Option Value} {led : Led} {dp un : Nat} {gd : Option (List Code)}
theorem chk_step {s : Shared} {kd nm : Str} {us : List Str} {rg : Option (Int × Int × Int)} {i : Int} {t t2 k0 : Tok} {ua T : Addr} {items : Array Value} {kk : Nat} {p1 p2 tpos : Pos}
    (F : Fr g L s.heap m₁) (N : News g L s.heap led) (X : (K0 w.params).In g) (TT : Top qv (looseW qv looseL) mean mg mb g) (hkd : m₁ "kind" = some (.str kd k0)) (hus : m₁ "used" = some (.ref ua)) (hT : IsTup s.heap T #[.str nm t, .int i t2])
    (ok : okField us rg nm i = true) (KA : KindAt w.params kd us rg) (hua : (K0 w.params).lookup ua = some ⟨.type "tuple", none, .seq items 0, #[]⟩) (hsa : StrsAre items.toList us) :
    wpAny (model pr w) (cA dp un gd L outer) (assign (.Tuple [.Name "name" p1, .Name "number" p2] kk tpos) (cE L) (.ref T)) (fun _ s₂ => wpAny (model pr w) (cA dp un gd L outer) (execs (forB bdF25 2) (cE L)) (fun f s' => f = .next ∧ ∃ h' tk m', s' = { s with heap := h', toks := tk } ∧ Fr g L h' m' ∧ News g L h' led ∧ (m' "kind" = some (.str kd k0) ∧ m' "used" = some (.ref ua))) (fun _ _ => False) s₂) (fun _ _ => False) s := by
  refine unpackN_ F N hT rfl rfl rfl fun h1 F1 N1 => ?_
  refine assignInOrder_cons (assign_Name (storeX_L F1 N1 fun h2 F2 N2 => ?_))
  refine assignInOrder_cons (assign_Name (storeX_L F2 N2 fun h3 F3 N3 => ?_))
  refine assignInOrder_nil ?_
  generalize hm3 : (fun y : Str => if y = "number" then some (Value.int i t2) else (fun y : Str => if y = "name" then some (Value.str nm t) else m₁ y) y) = m3 at F3
  have e1 : m3 "name" = some (.str nm t) := by rw [← hm3]; rfl
  have e2 : m3 "number" = some (.int i t2) := by rw [← hm3]; rfl
  have e3 : m3 "kind" = some (.str kd k0) := by rw [← hm3]; exact hkd
  have e4 : m3 "used" = some (.ref ua) := by rw [← hm3]; exact hus
  have X3 : (K0 w.params).In h3 := X.keeps F3.keep
  have num := fun {h : Heap} {m : Str → Option Value} (F : Fr g L h m) (p : Pos) (e : m "number" = some (.int i t2)) => PV.nameI (prog := pr) (w := w) (A := cA dp un gd L outer) (cn := "check") (cs := scF25) (a := 1028) (ccd := .ref 1027) (cl := []) (x := "number") (pos := p) (i := i) (t := t2) F e
  have nme := fun (p : Pos) => PV.name (prog := pr) (w := w) (A := cA dp un gd L outer) (cn := "check") (cs := scF25) (a := 1028) (ccd := .ref 1027) (cl := []) (x := "name") (pos := p) (P := IsS nm) F3 e1 ⟨t, rfl⟩
  refine st_if (b := false) (.or2 (a := false) (b := false) (.not_ (b := true) (.bool (.isInt F3 X TT e2))) fun _ => .bool (.isBool F3 X TT e2)) ?_
  intro tk1
  rw [if_neg (by decide)]
  refine nextStep ?_
  refine st_if (b := !(us.any (· == nm))) (.notinT (nme _) (.name F3 e4 rfl) ⟨_, X3 _ _ hua, rfl, _, rfl⟩ hsa) ?_
  intro tk2
  unfold okField at ok
  cases hu : us.any (· == nm) with
  | false =>
    rw [hu, if_neg (by decide)] at ok
    rw [show (!false) = true from rfl, if_pos rfl]
    refine st_if (b := i != 0) (.neI (num F3 _ e2) (.const 0 _ _)) ?_
    intro tk3
    obtain rfl : i = 0 := by simpa using ok
    rw [if_neg (by decide)]
    refine nextStep (nextStep (nextStep ?_))
    exact ⟨rfl, h3, _, m3, rfl, F3, N3, e3, e4⟩
  | true =>
    rw [hu, if_pos rfl] at ok
    rw [show (!true) = false from rfl, if_neg (by decide)]
    refine st_if (b := nm == "imm") (.eqS (nme _) (.constS _ _ _)) ?_
    intro tk3
    cases hi : (nm == ("imm" : Str)) with
    | true =>
      rw [hi, if_pos rfl] at ok
      rw [if_pos rfl]
      obtain ⟨lo, hi', st, rfl⟩ : ∃ lo hi st, rg = some (lo, hi, st) := by
        cases rg with
        | none => cases ok
        | some r => exact ⟨r.1, r.2.1, r.2.2, rfl⟩
      obtain ⟨ra, u0, u1, u2, hra, hrk⟩ := KA.rng lo hi' st rfl
      simp only [Bool.and_eq_true, decide_eq_true_eq, beq_iff_eq, bne_iff_ne, ne_eq] at ok
      obtain ⟨⟨⟨ok1, ok2⟩, ok3⟩, ok4⟩ := ok
      refine wpAny_execs_cons (Assign_Tuple ((PV.itemStr (k := kd) (.nameG F3 X TT (v := .ref 1006) (by kernel_rfl)) (.name (P := IsS kd) F3 e3 ⟨k0, rfl⟩) (mapRng X3) (v := .ref ra) (by rw [refsS, hra]; rfl)).use fun v tk4 hv => ?_))
      subst hv
      refine unpackN_ (s := { s with heap := h3, toks := tk4 }) F3 N3 ⟨_, X3 _ _ hrk, rfl, _, rfl⟩ rfl rfl rfl fun h4 F4 N4 => ?_
      refine assignInOrder_cons (assign_Name (storeX_L F4 N4 fun h5 F5 N5 => ?_))
      refine assignInOrder_cons (assign_Name (storeX_L F5 N5 fun h6 F6 N6 => ?_))
      refine assignInOrder_cons (assign_Name (storeX_L F6 N6 fun h7 F7 N7 => ?_))
      refine assignInOrder_nil ?_
      have lv := fun (y : Str) (p : Pos) (j : Int) (u : Tok) (e : (fun y : Str => if y = "step" then some (Value.int st u2) else (fun y : Str => if y = "greatest" then some (Value.int hi' u1) else (fun y : Str => if y = "least" then some (Value.int lo u0) else m3 y) y) y) y = some (.int j u)) hx hd => PV.nameI (prog := pr) (w := w) (A := cA dp un gd L outer) (cn := "check") (cs := scF25) (a := 1028) (ccd := .ref 1027) (cl := []) (x := y) (pos := p) (i := j) (t := u) F7 e rfl hx hd
      refine st_if (b := false) ?_ ?_
      · have hc : false = ((!(decide (lo ≤ i) && decide (i ≤ hi'))) || (i.fmod st != 0)) := by simp [ok1, ok2, ok3]
        rw [hc]
        exact .or2 (.not_ (.leI (lv "least" _ lo u0 rfl rfl (by decide)) (lv "number" _ i t2 e2 rfl (by decide)) (lv "greatest" _ hi' u1 rfl rfl (by decide)))) fun _ => .neI (.mod (lv "number" _ i t2 e2 rfl (by decide)) (lv "step" _ st u2 rfl rfl (by decide)) ok4) (.const 0 _ _)
      · intro tk5
        rw [if_neg (by decide)]
        refine nextStep (nextStep (nextStep (nextStep ?_)))
        exact ⟨rfl, h7, _, _, rfl, F7, N7, e3, e4⟩
    | false =>
      rw [hi, if_neg (by decide)] at ok
      rw [if_neg (by decide)]
      simp only [Bool.and_eq_true, decide_eq_true_eq] at ok
      refine st_if (b := false) ?_ ?_
      · have hc : false = (!(decide (0 ≤ i) && decide (i < if nm == ("csr" : Str) then 4096 else 32))) := by rw [decide_eq_true ok.1, decide_eq_true ok.2]; rfl
        rw [hc]
        exact .not_ (.leltI (.const 0 _ _) (num F3 _ e2) (.ite (P := IsI (if nm == ("csr" : Str) then 4096 else 32)) (.eqS (nme _) (.constS _ _ _)) (fun e => by rw [if_pos e]; exact .const 4096 _ _) (fun e => by rw [if_neg (by rw [e]; decide)]; exact .const 32 _ _)))
      · intro tk5
        rw [if_neg (by decide)]
        refine nextStep (nextStep (nextStep (nextStep ?_)))
        exact ⟨rfl, h3, _, m3, rfl, F3, N3, e3, e4⟩
structure InsAt (n : Led) (x dx : Addr) (es : List DictEntry) (nm : Str) (rd rs1 rs2 imm csr : Int) : Prop where
  obj : (x, instObj 98 dx) ∈ n
  dct : (dx, dictOf es 6) ∈ n
  flds : Fields es nm rd rs1 rs2 imm csr
theorem InsAt.at {n : Led} {x dx : Addr} {es : List DictEntry} {nm : Str} {rd rs1 rs2 imm csr : Int} (I : InsAt n x dx es nm rd rs1 rs2 imm csr) {h : Heap} (N : News g L h n) : InstAt h x (instObj 98 dx) 98 (some (dictOf es 6)) := .of_news N I.obj I.dct
end
theorem dp_cons {w : World} {A : Around} {env : Env} {E : Value → Shared → Prop} {s : Shared} {y : Str} {kk : Nat} {kp pos : Pos} {v : Expr} {ks : List (Option Expr)} {vs : List Expr} {Q : List (Value × Value) → Shared → Prop} {P : Value → Prop} (pv : PV pr w A env s.heap v P)
    (next : ∀ t u tk, P u → wpAny (model pr w) A (evalPairs (pairTrees ks vs env pos)) (fun r s₃ => Q ((.str y t, u) :: r) s₃) E { s with toks := tk }) : wpAny (model pr w) A (evalPairs (pairTrees (some (.Constant (.str y) kk kp) :: ks) (v :: vs) env pos)) Q E s := by
  refine evalPairs_cons (wpAny_Constant_str ?_)
  refine wpAny_bind (PV.use (s := { s with toks := s.toks + 1 }) pv fun u tk p => ?_)
  exact wpAny_bind (wpAny_standAt (wpAny_pure (next _ u tk p)))
theorem chk {w : World} {mean : ExcName → Option Value} {mg mb : Str → Option Value} {news : Led} {x dx : Addr} {es : List DictEntry} {nm kd : Str} {t : Tok} {rd rs1 rs2 imm csr : Int} {us : List Str} {rg : Option (Int × Int × Int)} (I : InsAt news x dx es nm rd rs1 rs2 imm csr)
    (hk : kindTab.lookup kd = some (us, rg)) (o1 : okField us rg "rd" rd = true) (o2 : okField us rg "rs1" rs1 = true) (o3 : okField us rg "rs2" rs2 = true) (o4 : okField us rg "imm" imm = true) (o5 : okField us rg "csr" csr = true) :
    Call w mean mg mb 1028 1 [.ref x, .str kd t] news (fun r n => r = .none ∧ n = news) := by
  refine Call.of (fo1028 _) (co1028 _) (binds := [("instruction", .ref x), ("kind", .str kd t)]) (by kernel_rfl) ?_
  intro dp un gd outer A₀ base g L s Q E S hd hu ret
  have KA := kindAt w.params hk
  obtain ⟨ua, items, hua, huk, hsa⟩ := KA.used
  refine st_assign (x := "used") S.F S.N (P := (· = .ref ua)) (.itemStr (k := kd) (.nameG S.F S.X S.T (v := .ref 993) (by kernel_rfl)) (.name (P := IsS kd) S.F rfl ⟨t, rfl⟩) (mapUsed S.K) (v := .ref ua) (by rw [refsS, hua]; rfl)) ?_
  intro v h1 tk1 hv F1 N1
  subst hv
  have ins := fun {h : Heap} {m : Str → Option Value} (F : Fr g L h m) (p : Pos) (e : m "instruction" = some (.ref x)) => PV.name (prog := pr) (w := w) (A := cA dp un gd L outer) (cn := "check") (cs := scF25) (a := 1028) (ccd := .ref 1027) (cl := []) (x := "instruction") (pos := p) (P := (· = .ref x)) F e rfl
  have hins1 : (fun y : Str => if y = "used" then some (Value.ref ua) else ([("instruction", Value.ref x), ("kind", .str kd t)] : List (Str × Value)).reverse.lookup y) "instruction" = some (.ref x) := rfl
  refine wpAny_execs_cons (wpAny_Assign_Name (Dict_made_str (by rfl) F1 (by rfl) (by rfl) (by simp) (by decide) fun F2 => ?_) (by rfl))
  have N2 : News g L (h1.push { cls := .type "dict", data := .dict #[] }) news := fun p hp => ⟨Heap.get?_push_of_some _ (N1 p hp).1, (N1 p hp).2⟩
  refine dp_cons (P := IsI rd) (.attrI F2 S.X (at_ := none) (ins F2 _ hins1) (I.at N2) (by kernel_rfl) (by kernel_rfl) (by kernel_rfl) rfl I.flds.rd) fun t1 u1 tk2 p1 => ?_
  refine dp_cons (P := IsI rs1) (.attrI F2 S.X (at_ := none) (ins F2 _ hins1) (I.at N2) (by kernel_rfl) (by kernel_rfl) (by kernel_rfl) rfl I.flds.rs1) fun t2 u2 tk3 p2 => ?_
  refine dp_cons (P := IsI rs2) (.attrI F2 S.X (at_ := none) (ins F2 _ hins1) (I.at N2) (by kernel_rfl) (by kernel_rfl) (by kernel_rfl) rfl I.flds.rs2) fun t3 u3 tk4 p3 => ?_
  refine dp_cons (P := IsI imm) (.attrI F2 S.X (at_ := none) (ins F2 _ hins1) (I.at N2) (by kernel_rfl) (by kernel_rfl) (by kernel_rfl) rfl I.flds.imm) fun t4 u4 tk5 p4 => ?_
  refine dp_cons (P := IsI csr) (.attrI F2 S.X (at_ := none) (ins F2 _ hins1) (I.at N2) (by kernel_rfl) (by kernel_rfl) (by kernel_rfl) rfl I.flds.csr) fun t5 u5 tk6 p5 => ?_
  obtain ⟨w1, rfl⟩ := p1
  obtain ⟨w2, rfl⟩ := p2
  obtain ⟨w3, rfl⟩ := p3
  obtain ⟨w4, rfl⟩ := p4
  obtain ⟨w5, rfl⟩ := p5
  refine evalPairs_nil ?_
  refine made_str (vs := [(.str "rd" t1, .int rd w1), (.str "rs1" t2, .int rs1 w2), (.str "rs2" t3, .int rs2 w3), (.str "imm" t4, .int imm w4), (.str "csr" t5, .int csr w5)]) F1 N1 rfl (show (["rd", "rs1", "rs2", "imm", "csr"] : List Str).Nodup by decide) fun h2 od F3 N3 hd => ?_
  refine storeX_L F3 N3 (fun h3 F4 N4 => ?_) rfl rfl
  have lo : (h1.objs.size == sysModules) = false := F1.notModules (modules_low S.T.nolimit)
  refine wpAny_execs_cons (wpAny_mono (for_items (kvs := [("rd", .int rd w1), ("rs1", .int rs1 w2), ("rs2", .int rs2 w3), ("imm", .int imm w4), ("csr", .int csr w5)]) (d := h1.objs.size) (od := od) rfl F4 N4 (.head _) hd lo (fun Q' E' q => nameX_L F4 rfl q rfl rfl (by decide)) rfl rfl (fun _ m' => m' "kind" = some (.str kd t) ∧ m' "used" = some (.ref ua)) ⟨rfl, rfl⟩ (fun i k v T t' h tk m₁ led hx hJ F5 N5 hl hT => ?_) fun h' tk m' F5 N5 hJ => ?_) (fun _ _ z => z) fun _ _ z => z.elim)
  · have key : ∃ j u, v = .int j u ∧ okField us rg k j = true := by
      rcases i with _ | _ | _ | _ | _ | i <;> simp only [List.getElem?_cons_zero, List.getElem?_cons_succ, List.getElem?_nil, Option.some.injEq, Prod.mk.injEq, reduceCtorEq] at hx
      · obtain ⟨rfl, rfl⟩ := hx; exact ⟨_, _, rfl, o1⟩
      · obtain ⟨rfl, rfl⟩ := hx; exact ⟨_, _, rfl, o2⟩
      · obtain ⟨rfl, rfl⟩ := hx; exact ⟨_, _, rfl, o3⟩
      · obtain ⟨rfl, rfl⟩ := hx; exact ⟨_, _, rfl, o4⟩
      · obtain ⟨rfl, rfl⟩ := hx; exact ⟨_, _, rfl, o5⟩
    obtain ⟨j, u, rfl, hok⟩ := key
    exact chk_step (s := { s with heap := h, toks := tk }) F5 N5 S.X S.T hJ.1 hJ.2 hT hok KA huk hsa
  · refine nextStep ?_
    exact ret _ .none _ _ _ _ ⟨rfl, rfl⟩ (.inr ⟨rfl, rfl⟩) F5 (News.sub N5 fun p hp => .tail _ hp)
end Mine
end
section
open PySem PySem.W PyProof.Rows PySem.Calls PyProof.V PySem.Spec
set_option maxHeartbeats 1000000
namespace Mine
section
variable {w : World} {a : At} {news : Led}
theorem EV.bin {l r : Expr} {op : Operator} {pos : Pos} {i j c : Int} (x : EV w a news l (Same news (IsI i))) (y : EV w a news r (Same news (IsI j)))
    (f : ∀ (s : Shared) (t u : Tok) (Q E : Value → Shared → Prop), (∀ tk t, Q (.int c t) { s with toks := tk }) → wpAny (model pr w) a.A (binaryOp op (.int i t) (.int j u)) Q E s) : EV w a news (.BinOp l op r pos) (Same news (IsI c)) := by
  intro s Q E F N q
  refine wpAny_BinOp (x s _ _ F N fun v n h1 tk hv F1 N1 => ?_)
  obtain ⟨⟨t, rfl⟩, rfl⟩ := hv
  refine y _ _ _ F1 N1 fun v n h2 tk' hv F2 N2 => ?_
  obtain ⟨⟨u, rfl⟩, rfl⟩ := hv
  exact f _ t u _ _ fun tk'' t' => q _ n h2 _ ⟨isI _ _, rfl⟩ F2 N2
theorem EV.or_ {l r : Expr} {pos : Pos} {i j : Int} (x : EV w a news l (Same news (IsI i))) (y : EV w a news r (Same news (IsI j))) : EV w a news (.BinOp l .BitOr r pos) (Same news (IsI (Builtin.bitOr i j))) := .bin x y fun s t u Q E q => or_int (q _ _)
theorem TE.inTup {l : Expr} {elts : List Expr} {kk : Nat} {tp pos : Pos} {k : Str} {ys : List Str} (x : EV w a news l (Same news (IsS k))) (y : EVs w a news elts fun vs n => StrsAre vs ys ∧ n = news) (hl : ys.length ≤ 15)
    (hm : behindInMarks .In (.Tuple elts kk tp) = false := by with_unfolding_all rfl) : TE w a news (.Compare l [.In] [.Tuple elts kk tp] pos) (ys.any (· == k)) := by
  intro s Q E F N q
  refine wpAny_isTrue_Compare1 (x s _ _ F N fun v n h1 tk hv F1 N1 => ?_) hm
  obtain ⟨⟨t, rfl⟩, rfl⟩ := hv
  refine Tuple_ (y _ _ _ _ F1 N1 fun vs n' h2 tk' hv F2 N2 => ?_)
  obtain ⟨hv, rfl⟩ := hv
  have hlen : vs.length = ys.length := by
    clear q x y F1 N1 F2 N2 hl
    induction hv with
    | nil => rfl
    | cons n t h ih => simp [ih]
  refine newTuple_N (s := { s with heap := h2, toks := tk' }) F2 N2 (fun h3 F3 N3 => ?_) (by rw [hlen]; exact Nat.le_trans hl (by decide))
  refine in_tuple_strs (s := { s with heap := h3, toks := tk' }) (News.isTup N3 (.head _)) hv (wpAny_truthy_bool ?_)
  exact q h3 tk' F3 (News.sub N3 fun p hp => .tail _ hp)
theorem st_ifE {env : Env} {s : Shared} {rest body orelse : List Stmt} {Q : Flow → Shared → Prop} {E : Value → Shared → Prop} {pos : Pos} {e : Expr} {b : Bool} (henv : a.env = env) (F : Fr a.g a.L s.heap a.m) (N : News a.g a.L s.heap news) (te : TE w a news e b)
    (k : ∀ h tk, Fr a.g a.L h a.m → News a.g a.L h news → wpAny (model pr w) a.A (execs (if b then body else orelse) env) (fun f s' => match f with | .next => wpAny (model pr w) a.A (execs rest env) Q E s' | f => Q f s') E { s with heap := h, toks := tk }) :
    wpAny (model pr w) a.A (execs (.If e body orelse pos :: rest) env) Q E s := by
  subst henv
  refine wpAny_execs_cons (wpAny_If (te s _ _ F N fun h tk F1 N1 => ?_))
  have := k h tk F1 N1
  cases b <;> exact this
theorem EV.meth0 {cn : Str} {cs : Scope} {L f0 : Addr} {ccd : Value} {cl : List (Str × Addr)} {mean : ExcName → Option Value} {mg mb : Str → Option Value} {A₀ : Around} {base : Heap} {outer : List Env} {dp un : Nat} {gd : Option (List Code)}
    {o : Expr} {attr : Str} {apos pos : Pos} {f x C : Addr} {ox : Obj} {es : List DictEntry} {nn : Nat} {d : Nat} {P : Value → Led → Prop} {pl : Sem Bool}
    (ha : a = ⟨ktrTop dp un gd cn cs L f0 ccd cl outer, envX cn cs L f0 ccd cl, a.g, L, a.m⟩) (B : Below A₀ base outer a.g) (X : (K0 w.params).In a.g) (T : Top qv (looseW qv looseL) mean mg mb a.g)
    (ov : EV w a news o (Same news (· = .ref x))) (I : ∀ h, Fr a.g L h a.m → News a.g L h news → InstAt h x ox C (some (dictOf es nn)))
    (hg : plainGet (K0 w.params) C attr = true) (hf : findIn (K0 w.params) (.ref C) attr = some (some (.ref f))) (hfn : isFn (K0 w.params) (.ref f) = true) (hl : getL attr es = some none) (hkeep : keepIn (K0 w.params) (.ref f) = true)
    (C' : Call w mean mg mb f d [.ref x] news P) (hd : dp + d ≤ 900) (hu : un + 20 * d ≤ 9000)
    (he : eval (.Call (.Attribute o attr apos) [] [] pos) (envX cn cs L f0 ccd cl) = (do
      let ov ← eval o (envX cn cs L f0 ccd cl)
      standAt apos.atName
      let (f, first) ← holding [ov] (getMethod ov attr pl)
      callWith pos f first (backTo pos (starEach [] (envX cn cs L f0 ccd cl))) (backToKw pos (keywordEach [] (envX cn cs L f0 ccd cl)))))
    (hk : cs.kind = .function := by rfl) : EV w a news (.Call (.Attribute o attr apos) [] [] pos) P := by
  obtain ⟨aA, aenv, ag, aL, am⟩ := a
  obtain ⟨rfl, rfl, -, rfl, -⟩ := At.mk.inj ha
  intro s Q E F N q
  refine methodCall_KW (pl := pl) (ov s _ _ F N fun v n h1 tk hv F1 N1 => ?_) he
  obtain ⟨rfl, rfl⟩ := hv
  refine method_inst (s := { s with heap := h1, toks := tk }) F1 X (I _ F1 N1) hg hf hfn hl ?_
  show wpAny _ _ (callWith pos (.ref f) [.ref x] (backTo pos (starEach [] _)) []) Q E _
  refine callWith_K0 (K := K0 w.params) (s := { s with heap := h1, toks := tk }) (X.keeps F1.keep) hkeep ?_
  exact C' _ _ _ _ _ _ _ _ _ _ _ _ _ _ _ _ _ ⟨B, F1, X, N1, T⟩ hk hd hu fun r n' h'' tk' hr F'' N'' => q r n' h'' tk' hr F'' N''
end
end Mine
end
section
open PySem PySem.W PyProof.Rows PySem.Calls PyProof.V PySem.Spec
set_option maxHeartbeats 4000000
namespace Mine
noncomputable def encT (kd : Str) (fd imm csr : Int) : Int :=
  if (["I", "shift", "fence"] : List Str).any (· == kd) then Builtin.bitOr fd (Builtin.bitAnd imm (4095 : Nat) * 2 ^ 20)
  else if kd == "S" then Builtin.bitOr (Builtin.bitOr fd (Builtin.bitAnd (imm.fdiv (2 ^ 5)) (127 : Nat) * 2 ^ 25)) (Builtin.bitAnd imm (31 : Nat) * 2 ^ 7)
  else if kd == "B" then Builtin.bitOr fd (sbF imm)
  else if kd == "U" then Builtin.bitOr fd (imm * 2 ^ 12)
  else if kd == "J" then Builtin.bitOr fd (sjF imm)
  else if kd == "CSR" then Builtin.bitOr fd (csr * 2 ^ 20)
  else if kd == "CSRI" then Builtin.bitOr (Builtin.bitOr fd (csr * 2 ^ 20)) (imm * 2 ^ 15)
  else fd
noncomputable def encF (kd : Str) (o th sv rd rs1 rs2 imm csr : Int) : Int :=
  encT kd (Builtin.bitOr (Builtin.bitOr (Builtin.bitOr (fixF o th sv) (rd * 2 ^ 7)) (rs1 * 2 ^ 15)) (rs2 * 2 ^ 20)) imm csr
noncomputable abbrev eA (dp un : Nat) (gd : Option (List Code)) (L : Addr) (outer : List Env) : Around := ktrTop dp un gd (Str.ofString "encode") scF28 L 1049 (Value.ref 1048) [] outer
noncomputable abbrev eE (L : Addr) : Env := envX "encode" scF28 L 1049 (.ref 1048) []
noncomputable abbrev eAt (dp un : Nat) (gd : Option (List Code)) (g : Heap) (L : Addr) (outer : List Env) (m : Str → Option Value) : At := ⟨eA dp un gd L outer, eE L, g, L, m⟩
structure EC (x : Addr) (kd : Str) (imm fd : Int) (k0 k1 kf : Tok) (m : Str → Option Value) : Prop where
  ins : m "instruction" = some (.ref x)
  kind : m "kind" = some (.str kd k0)
  imm : m "imm" = some (.int imm k1)
  found : m "found" = some (.int fd kf)
section
variable {w : World} {mean : ExcName → Option Value} {mg mb : Str → Option Value} {A₀ : Around} {base g : Heap} {outer : List Env} {L : Addr} {m : Str → Option Value} {n : Led} {dp un : Nat} {gd : Option (List Code)}
  {x dx : Addr} {es : List DictEntry} {nm kd : Str} {rd rs1 rs2 imm csr fd : Int} {k0 k1 kf : Tok}
theorem e_int {h : Heap} {y : Str} {p : Pos} {i : Int} {u : Tok} (F : Fr g L h m) (e : m y = some (.int i u)) (hx : (eE L).kindOf y = some .local) (hd : (y == ("__debug__" : Str)) = false) : PV pr w (eA dp un gd L outer) (eE L) h (.Name y p) (IsI i) :=
  .nameI (cn := "encode") (cs := scF28) (L := L) (a := 1049) (ccd := .ref 1048) (cl := []) F e rfl hx hd
theorem e_spread {h : Heap} {f : Addr} {nm' : Str} {p1 p2 pos : Pos} {r : Int} (S : Sit w mean mg mb A₀ base outer g L m n h) (hd : dp + 2 ≤ 900) (hu : un + 40 ≤ 9000) (D : EC x kd imm fd k0 k1 kf m) (hf : nsIn (K0 w.params) mainGlobals nm' = some (some (.ref f))) (hkeep : keepIn (K0 w.params) (.ref f) = true) (C : ∀ t, Call w mean mg mb f 1 [.int imm t] n (fun r' n' => IsI r r' ∧ n' = n))
    (hx : (eE L).kindOf nm' = some .globalImplicit) (hdb : (nm' == ("__debug__" : Str)) = false) : EV w (eAt dp un gd g L outer m) n (.Call (.Name nm' p1) [.Name "imm" p2] [] pos) (Same n (IsI r)) :=
  EV.call (cn := "encode") (cs := scF28) (L := L) (f0 := 1049) (ccd := .ref 1048) (cl := []) rfl S.B S.X S.T (f := f) (d := 1) (Pa := fun vs n0 => vs = [.int imm k1] ∧ n0 = n) hf hkeep (.cons (P := Same n (· = .int imm k1)) (EV.nameL (cn := "encode") (cs := scF28) (L := L) (f := 1049) (ccd := .ref 1048) (cl := []) rfl rfl D.imm rfl rfl rfl (by decide)) fun v n0 hv => .nil ⟨by rw [hv.1], hv.2⟩) (fun vs n0 h => by obtain ⟨rfl, rfl⟩ := h; exact C _) (by omega) (by omega) rfl hx hdb
theorem e_ret {s : Shared} {rest : List Stmt} {Q : Flow → Shared → Prop} {E : Value → Shared → Prop} {pos : Pos} {e : Expr} {r : Int} (F : Fr g L s.heap m) (N : News g L s.heap n) (ev : EV w (eAt dp un gd g L outer m) n e (Same n (IsI r)))
    (ret : ∀ r' h' tk' m', IsI r r' → Fr g L h' m' → News g L h' n → Q (.ret r') { s with heap := h', toks := tk' }) : wpAny (model pr w) (eA dp un gd L outer) (execs (.Return (some e) pos :: rest) (eE L)) Q E s :=
  st_returnE (a := eAt dp un gd g L outer m) rfl F N ev fun v n' h' tk p F' N' => by obtain ⟨p1, rfl⟩ := p; exact ret v h' tk m p1 F' N'
theorem enc_tail {s : Shared} {Q : Flow → Shared → Prop} {E : Value → Shared → Prop} (S : Sit w mean mg mb A₀ base outer g L m n s.heap) (hd : dp + 2 ≤ 900) (hu : un + 40 ≤ 9000) (D : EC x kd imm fd k0 k1 kf m) (I : InsAt n x dx es nm rd rs1 rs2 imm csr) (hi : imm.natAbs < 2 ^ 40) (hc : csr.natAbs < 2 ^ 40)
    (ret : ∀ r' h' tk' m', IsI (encT kd fd imm csr) r' → Fr g L h' m' → News g L h' n → Q (.ret r') { s with heap := h', toks := tk' }) :
    wpAny (model pr w) (eA dp un gd L outer) (execs (bdF28.drop 4) (eE L)) Q E s := by
  have kdn := fun {h : Heap} (F : Fr g L h m) (p : Pos) => PV.name (prog := pr) (w := w) (A := eA dp un gd L outer) (cn := "encode") (cs := scF28) (a := 1049) (ccd := .ref 1048) (cl := []) (x := "kind") (pos := p) (P := IsS kd) F D.kind ⟨k0, rfl⟩
  have fdn := fun {h : Heap} (F : Fr g L h m) (p : Pos) => e_int (w := w) (dp := dp) (un := un) (gd := gd) (outer := outer) (p := p) F D.found rfl (by decide)
  have imn := fun {h : Heap} (F : Fr g L h m) (p : Pos) => e_int (w := w) (dp := dp) (un := un) (gd := gd) (outer := outer) (p := p) F D.imm rfl (by decide)
  have csn := fun {h : Heap} (F : Fr g L h m) (N : News g L h n) (p q : Pos) => PV.attrI (w := w) (A := eA dp un gd L outer) (env := eE L) (x := "instruction") (attr := "csr") (np := p) (pos := q) F S.X (at_ := none) (.name (cn := "encode") (cs := scF28) (a := 1049) (ccd := .ref 1048) (cl := []) F D.ins rfl) (I.at N) (by kernel_rfl) (by kernel_rfl) (by kernel_rfl) rfl I.flds.csr
  refine st_ifE (a := eAt dp un gd g L outer m) (b := (["I", "shift", "fence"] : List Str).any (· == kd)) rfl S.F S.N (.inTup (.pv fun h F N => kdn F _) (.consS (.pv fun h F N => .constS _ _ _) fun t1 => .consS (.pv fun h F N => .constS _ _ _) fun t2 => .consS (.pv fun h F N => .constS _ _ _) fun t3 => .nil ⟨.cons _ _ (.cons _ _ (.cons _ _ .nil)), rfl⟩) (by decide)) ?_
  intro h1 tk1 F1 N1
  cases b1 : (["I", "shift", "fence"] : List Str).any (· == kd) with
  | true =>
    rw [if_pos rfl]
    refine e_ret (s := { s with heap := h1, toks := tk1 }) F1 N1 (r := Builtin.bitOr fd (Builtin.bitAnd imm (4095 : Nat) * 2 ^ 20)) (.pv fun h F N => .or_ (fdn F _) (.shl_and (.and_ (imn F _) (.const 4095 _ _)) (.const 20 _ _))) fun r' h' tk' m' p F' N' => ret r' h' tk' m' (by unfold encT; rw [b1, if_pos rfl]; exact p) F' N'
  | false =>
  rw [if_neg (by decide)]
  refine nextStep ?_
  refine st_if (s := { s with heap := h1, toks := tk1 }) (b := kd == "S") (.eqS (kdn F1 _) (.constS _ _ _)) ?_
  intro tk2
  cases b2 : (kd == ("S" : Str)) with
  | true =>
    rw [if_pos rfl]
    exact e_ret (s := { s with heap := h1, toks := tk2 }) F1 N1 (r := Builtin.bitOr (Builtin.bitOr fd (Builtin.bitAnd (imm.fdiv (2 ^ 5)) (127 : Nat) * 2 ^ 25)) (Builtin.bitAnd imm (31 : Nat) * 2 ^ 7)) (.pv fun h F N => .or_ (.or_ (fdn F _) (.shl_and (.and_ (.shr (imn F _) (.const 5 _ _)) (.const 127 _ _)) (.const 25 _ _))) (.shl_and (.and_ (imn F _) (.const 31 _ _)) (.const 7 _ _))) fun r' h' tk' m' p F' N' => ret r' h' tk' m' (by simp only [encT, b1, b2, Bool.false_eq_true, if_false, if_true]; exact p) F' N'
  | false =>
  rw [if_neg (by decide)]
  refine nextStep ?_
  refine st_if (s := { s with heap := h1, toks := tk2 }) (b := kd == "B") (.eqS (kdn F1 _) (.constS _ _ _)) ?_
  intro tk3
  cases b3 : (kd == ("B" : Str)) with
  | true =>
    rw [if_pos rfl]
    exact e_ret (s := { s with heap := h1, toks := tk3 }) F1 N1 (r := Builtin.bitOr fd (sbF imm)) (.or_ (.pv fun h F N => fdn F _) (e_spread (S.to F1 N1) hd hu D (f := 1035) (by kernel_rfl) (by kernel_rfl) (fun t => sb) rfl (by decide))) fun r' h' tk' m' p F' N' => ret r' h' tk' m' (by simp only [encT, b1, b2, b3, Bool.false_eq_true, if_false, if_true]; exact p) F' N'
  | false =>
  rw [if_neg (by decide)]
  refine nextStep ?_
  refine st_if (s := { s with heap := h1, toks := tk3 }) (b := kd == "U") (.eqS (kdn F1 _) (.constS _ _ _)) ?_
  intro tk4
  cases b4 : (kd == ("U" : Str)) with
  | true =>
    rw [if_pos rfl]
    exact e_ret (s := { s with heap := h1, toks := tk4 }) F1 N1 (r := Builtin.bitOr fd (imm * 2 ^ 12)) (.pv fun h F N => .or_ (fdn F _) (.shl (imn F _) (.const 12 _ _) (by decide) (by omega))) fun r' h' tk' m' p F' N' => ret r' h' tk' m' (by simp only [encT, b1, b2, b3, b4, Bool.false_eq_true, if_false, if_true]; exact p) F' N'
  | false =>
  rw [if_neg (by decide)]
  refine nextStep ?_
  refine st_if (s := { s with heap := h1, toks := tk4 }) (b := kd == "J") (.eqS (kdn F1 _) (.constS _ _ _)) ?_
  intro tk5
  cases b5 : (kd == ("J" : Str)) with
  | true =>
    rw [if_pos rfl]
    exact e_ret (s := { s with heap := h1, toks := tk5 }) F1 N1 (r := Builtin.bitOr fd (sjF imm)) (.or_ (.pv fun h F N => fdn F _) (e_spread (S.to F1 N1) hd hu D (f := 1042) (by kernel_rfl) (by kernel_rfl) (fun t => sj) rfl (by decide))) fun r' h' tk' m' p F' N' => ret r' h' tk' m' (by simp only [encT, b1, b2, b3, b4, b5, Bool.false_eq_true, if_false, if_true]; exact p) F' N'
  | false =>
  rw [if_neg (by decide)]
  refine nextStep ?_
  refine st_if (s := { s with heap := h1, toks := tk5 }) (b := kd == "CSR") (.eqS (kdn F1 _) (.constS _ _ _)) ?_
  intro tk6
  cases b6 : (kd == ("CSR" : Str)) with
  | true =>
    rw [if_pos rfl]
    exact e_ret (s := { s with heap := h1, toks := tk6 }) F1 N1 (r := Builtin.bitOr fd (csr * 2 ^ 20)) (.pv fun h F N => .or_ (fdn F _) (.shl (csn F N _ _) (.const 20 _ _) (by decide) (by omega))) fun r' h' tk' m' p F' N' => ret r' h' tk' m' (by simp only [encT, b1, b2, b3, b4, b5, b6, Bool.false_eq_true, if_false, if_true]; exact p) F' N'
  | false =>
  rw [if_neg (by decide)]
  refine nextStep ?_
  refine st_if (s := { s with heap := h1, toks := tk6 }) (b := kd == "CSRI") (.eqS (kdn F1 _) (.constS _ _ _)) ?_
  intro tk7
  cases b7 : (kd == ("CSRI" : Str)) with
  | true =>
    rw [if_pos rfl]
    exact e_ret (s := { s with heap := h1, toks := tk7 }) F1 N1 (r := Builtin.bitOr (Builtin.bitOr fd (csr * 2 ^ 20)) (imm * 2 ^ 15)) (.pv fun h F N => .or_ (.or_ (fdn F _) (.shl (csn F N _ _) (.const 20 _ _) (by decide) (by omega))) (.shl (imn F _) (.const 15 _ _) (by decide) (by omega))) fun r' h' tk' m' p F' N' => ret r' h' tk' m' (by simp only [encT, b1, b2, b3, b4, b5, b6, b7, Bool.false_eq_true, if_false, if_true]; exact p) F' N'
  | false =>
  rw [if_neg (by decide)]
  refine nextStep ?_
  exact e_ret (s := { s with heap := h1, toks := tk7 }) F1 N1 (r := fd) (.pv fun h F N => fdn F _) fun r' h' tk' m' p F' N' => ret r' h' tk' m' (by simp only [encT, b1, b2, b3, b4, b5, b6, b7, Bool.false_eq_true, if_false, if_true]; exact p) F' N'
end
theorem EV.use {w : World} {a : At} {news : Led} {e : Expr} {P : Value → Led → Prop} {s : Shared} {Q E : Value → Shared → Prop} (F : Fr a.g a.L s.heap a.m) (N : News a.g a.L s.heap news) (x : EV w a news e P)
    (q : ∀ v n h' tk, P v n → Fr a.g a.L h' a.m → News a.g a.L h' n → Q v { s with heap := h', toks := tk }) : wpAny (model pr w) a.A (eval e a.env) Q E s := x s Q E F N q
theorem enc {w : World} {mean : ExcName → Option Value} {mg mb : Str → Option Value} {n : Led} {x dx : Addr} {es : List DictEntry} {nm nm' kd : Str} {o th sv rd rs1 rs2 imm csr : Int} {a : Nat} {us : List Str} {rg : Option (Int × Int × Int)} (I : InsAt n x dx es nm rd rs1 rs2 imm csr)
    (ha : tName.lookup nm = some a) (hr : shT.lookup a = some (nm', kd, o, th, sv))
    (hk : kindTab.lookup kd = some (us, rg)) (o1 : okField us rg "rd" rd = true) (o2 : okField us rg "rs1" rs1 = true) (o3 : okField us rg "rs2" rs2 = true) (o4 : okField us rg "imm" imm = true) (o5 : okField us rg "csr" csr = true)
    (b1 : rd.natAbs < 2 ^ 40) (b2 : rs1.natAbs < 2 ^ 40) (b3 : rs2.natAbs < 2 ^ 40) (b4 : imm.natAbs < 2 ^ 40) (b5 : csr.natAbs < 2 ^ 40) :
    Call w mean mg mb 1049 3 [.ref x] n (fun r n' => IsI (encF kd o th sv rd rs1 rs2 imm csr) r ∧ n' = n) := by
  refine Call.of (fo1049 _) (co1049 _) (binds := [("instruction", .ref x)]) (by kernel_rfl) ?_
  intro dp un gd outer A₀ base g L s Q E S hd hu ret
  have at_ : At := ⟨eA dp un gd L outer, eE L, g, L, fun y => ([("instruction", Value.ref x)] : List (Str × Value)).reverse.lookup y⟩
  have insn := fun {h : Heap} {m : Str → Option Value} (F : Fr g L h m) (p : Pos) (e : m "instruction" = some (.ref x)) => PV.name (prog := pr) (w := w) (A := eA dp un gd L outer) (cn := "encode") (cs := scF28) (a := 1049) (ccd := .ref 1048) (cl := []) (x := "instruction") (pos := p) (P := (· = .ref x)) F e rfl
  refine st_assignE (a := eAt dp un gd g L outer (fun y => ([("instruction", Value.ref x)] : List (Str × Value)).reverse.lookup y)) (x := "shape") rfl rfl S.F S.N (P := Same n (· = .ref a)) (EV.call (cn := "encode") (cs := scF28) (L := L) (f0 := 1049) (ccd := .ref 1048) (cl := []) rfl S.B S.X S.T (f := 1021) (d := 1) (Pa := fun vs n0 => (∃ t, vs = [.str nm t]) ∧ n0 = n) (by kernel_rfl) (by kernel_rfl)
    (.consS (.pv fun h F N => .attrS F S.X (at_ := none) (insn F _ rfl) (I.at N) (by kernel_rfl) (by kernel_rfl) (by kernel_rfl) rfl I.flds.name) fun t => .nil ⟨⟨t, rfl⟩, rfl⟩) (fun vs n0 h => by obtain ⟨⟨t, rfl⟩, rfl⟩ := h; exact so ha) (by omega) (by omega)) ?_
  intro v n1 h1 tk1 hv F1 N1
  obtain ⟨rfl, rfl⟩ := hv
  obtain ⟨sl, dxs, ess, ns, HH⟩ := shp_all (P := w.params) (lookup_mem hr)
  have H := HH _ (S.X.keeps F1.keep)
  refine wpAny_execs_cons (Assign_Tuple_swapped (names := ["kind", "imm"]) (Tuple_ ?_))
  refine spliced_more ((PV.attrS F1 S.X (at_ := none) (.name (cn := "encode") (cs := scF28) (L := L) (a := 1049) (ccd := .ref 1048) (cl := []) F1 rfl rfl) H.at_ (by kernel_rfl) (by kernel_rfl) (by kernel_rfl) rfl H.kind).use fun v0 tk3 h0 => ?_)
  refine spliced_more ((PV.attrI F1 S.X (at_ := none) (insn F1 _ rfl) (I.at N1) (by kernel_rfl) (by kernel_rfl) (by kernel_rfl) rfl I.flds.imm).use fun v1 tk4 h1' => ?_)
  refine spliced_none ?_
  obtain ⟨k0, rfl⟩ := h0
  obtain ⟨k1, rfl⟩ := h1'
  refine newTuple_N (s := { s with heap := h1, toks := tk4 }) F1 N1 fun h2 F2 N2 => ?_
  refine unpackItemsN_ (s := { s with heap := h2, toks := tk4 }) F2 N2 (News.isTup N2 (.head _)) rfl rfl fun h3 F3 N3 => ?_
  refine assignInOrder_cons (wpAny_bindName (storeX_L F3 N3 fun h4 F4 N4 => ?_))
  refine assignInOrder_cons (wpAny_bindName (storeX_L F4 N4 fun h5 F5 N5 => ?_))
  refine assignInOrder_nil ?_
  have N5' : News g L h5 n1 := News.sub N5 fun p hp => .tail _ hp
  generalize hm5 : (fun y : Str => if y = "kind" then some (Value.str kd k0) else (fun y : Str => if y = "imm" then some (Value.int imm k1) else (fun y : Str => if y = "shape" then some (Value.ref a) else ([("instruction", Value.ref x)] : List (Str × Value)).reverse.lookup y) y) y) = m5 at F5
  have e1 : m5 "instruction" = some (.ref x) := by rw [← hm5]; rfl
  have e2 : m5 "kind" = some (.str kd k0) := by rw [← hm5]; rfl
  have e3 : m5 "imm" = some (.int imm k1) := by rw [← hm5]; rfl
  have e4 : m5 "shape" = some (.ref a) := by rw [← hm5]; rfl
  refine wpAny_execs_cons (wpAny_Expr_any ?_)
  refine EV.use (a := eAt dp un gd g L outer m5) (news := n1) (P := Same n1 (· = .none)) F5 N5' (EV.call (cn := "encode") (cs := scF28) (L := L) (f0 := 1049) (ccd := .ref 1048) (cl := []) rfl S.B S.X S.T (f := 1028) (d := 1) (Pa := fun vs n0 => vs = [.ref x, .str kd k0] ∧ n0 = n1) (by kernel_rfl) (by kernel_rfl)
    (.cons (P := Same n1 (· = .ref x)) (EV.nameL (cn := "encode") (cs := scF28) (L := L) (f := 1049) (ccd := .ref 1048) (cl := []) rfl rfl e1 rfl rfl rfl (by decide)) fun v n0 hv => .cons (P := Same n1 (· = .str kd k0)) (by rw [hv.2]; exact EV.nameL (cn := "encode") (cs := scF28) (L := L) (f := 1049) (ccd := .ref 1048) (cl := []) rfl rfl e2 rfl rfl rfl (by decide)) fun v' n0' hv' => .nil ⟨by rw [hv.1, hv'.1], hv'.2⟩)
    (fun vs n0 h => by obtain ⟨rfl, rfl⟩ := h; exact chk I hk o1 o2 o3 o4 o5) (by omega) (by omega)) fun v n6 h6 tk6 hv F6 N6 => ?_
  obtain ⟨-, rfl⟩ := hv
  refine st_assignE (s := { s with heap := h6, toks := tk6 }) (a := eAt dp un gd g L outer m5) (x := "found") rfl rfl F6 N6 (P := Same n6 (IsI (Builtin.bitOr (Builtin.bitOr (Builtin.bitOr (fixF o th sv) (rd * 2 ^ 7)) (rs1 * 2 ^ 15)) (rs2 * 2 ^ 20)))) (.or_ (.or_ (.or_ ?_ ?_) ?_) ?_) ?_
  · exact EV.meth0 (pl := _) (cn := "encode") (cs := scF28) (L := L) (f0 := 1049) (ccd := .ref 1048) (cl := []) rfl S.B S.X S.T (f := 124) (x := a) (C := 127) (d := 1) (es := ess) (nn := ns) (.pv fun h F N => .name (cn := "encode") (cs := scF28) (L := L) (a := 1049) (ccd := .ref 1048) (cl := []) F e4 rfl) (fun h F N => (HH _ (S.X.keeps F.keep)).at_) (by kernel_rfl) (by kernel_rfl) (by kernel_rfl) H.fixed (by kernel_rfl) (fx hr) (by omega) (by omega) (by rfl)
  · exact .pv fun h F N => .shl (.attrI F S.X (at_ := none) (insn F _ e1) (I.at N) (by kernel_rfl) (by kernel_rfl) (by kernel_rfl) rfl I.flds.rd) (.const 7 _ _) (by decide) (by omega)
  · exact .pv fun h F N => .shl (.attrI F S.X (at_ := none) (insn F _ e1) (I.at N) (by kernel_rfl) (by kernel_rfl) (by kernel_rfl) rfl I.flds.rs1) (.const 15 _ _) (by decide) (by omega)
  · exact .pv fun h F N => .shl (.attrI F S.X (at_ := none) (insn F _ e1) (I.at N) (by kernel_rfl) (by kernel_rfl) (by kernel_rfl) rfl I.flds.rs2) (.const 20 _ _) (by decide) (by omega)
  intro v n7 h7 tk7 hv F7 N7
  obtain ⟨⟨kf, rfl⟩, rfl⟩ := hv
  exact enc_tail (s := { s with heap := h7, toks := tk7 }) (kd := kd) (imm := imm) (k0 := k0) (k1 := k1) (kf := kf) ⟨S.B, F7, S.X, N7, S.T⟩ (by omega) (by omega) ⟨e1, e2, e3, rfl⟩ I b4 b5 fun r' h' tk' m' p F' N' => ret _ r' _ _ _ _ ⟨p, rfl⟩ (.inl rfl) F' N'
end Mine
end
section
open PySem PySem.W PyProof.Rows PySem.Calls PyProof.V PySem.Spec
set_option maxHeartbeats 1000000
namespace Mine
theorem mem_env {env : Env} {L b : Addr} (hf : env.frame = some L) (hm : b ∈ [env].filterMap (·.frame)) : b = L := by
  obtain ⟨e, he, h⟩ := List.mem_filterMap.mp hm
  rw [List.mem_singleton.mp he, hf] at h
  exact (Option.some.inj h).symm
section
variable {w : World} {A₀ A : Around} {s : Shared} {base h₀ : Heap} {L : Addr} {m : Str → Option Value} {news : Led} {env : Env} {mean : ExcName → Option Value} {mg mb : Str → Option Value}
theorem enterX (B : Below A₀ base [] h₀) (F : Fr h₀ L s.heap m) (N : News h₀ L s.heap news) (hA : A.frames = some [env]) (hf : env.frame = some L) (hke : env.scope.kind = .function) :
    ∃ oL es ep, (hideAll s.heap (news.map (·.1))).get? L = some oL ∧ oL.data = .dict es ep ∧ (∀ h', h'.get? L = some oL → Heap.Ns h' L m) ∧ (∀ (sl : Array (Option Value)) h', h'.get? L = some { oL with slots := sl } → Heap.Ns h' L m) ∧
      h₀.StaysIn (hideAll s.heap (news.map (·.1))) ∧ Below A base [env] (hideAll s.heap (news.map (·.1))) := by
  have nm : ∀ b o, h₀.get? b = some o → b ∉ news.map (·.1) := fun b o e q => by
    obtain ⟨p, hp, rfl⟩ := List.mem_map.mp q
    rw [(N p hp).2.2] at e; cases e
  have st : h₀.StaysIn (hideAll s.heap (news.map (·.1))) := fun b o e => hideAll_get _ (F.keep b o e) (nm b o e)
  obtain ⟨oL, es, ep, hL, hLd, hLk, hLf⟩ := F.ns
  have nL : L ∉ news.map (·.1) := fun q => by
    obtain ⟨p, hp, e⟩ := List.mem_map.mp q
    exact (N p hp).2.1 e
  have hLg := hideAll_get (news.map (·.1)) hL nL
  have B₁ := pushX B F hf hke
  refine ⟨oL, es, ep, hLg, hLd, fun h' e => ⟨oL, es, ep, e, hLd, hLk, hLf⟩, fun sl h' e => ⟨_, es, ep, e, hLd, hLk, hLf⟩, st, ⟨hA, fun b o e => st b o (B.stays b o e), funFrames_hideAll B₁.frames fun env' he b hb hf' => ?_⟩⟩
  rw [List.mem_singleton.mp he, hf] at hf'
  exact nL ((Option.some.inj hf' : L = b) ▸ hb)
theorem code_defSX {R : Result → Shared → Prop} {name qual : Str} {params : Arguments} {body : List Stmt} {scope : Scope} {dV kV doc pm cdv ct oc : Value} {an od : Option Addr} {osl : Array (Option Value)} {f : Addr} {args : Args} {binds : List (Str × Value)}
    (B : Below A₀ base [] h₀) (F : Fr h₀ L s.heap m) (X₀ : (K0 w.params).In h₀) (N : News h₀ L s.heap news) (T : Top qv (looseW qv looseL) mean mg mb h₀) (hA : A.frames = some [env]) (hf : env.frame = some L) (hke : env.scope.kind = .function)
    (ho : (K0 w.params).lookup f = some ⟨oc, od, .func (fnOf name qual params body scope dV kV doc pm an cdv ct), osl⟩) (hcd : codeIn (K0 w.params) cdv qual = true) (hroom : A.depth < recursionLimit)
    (hbind : BindsTo s (fnOf name qual params body scope dV kV doc pm an cdv ct) args binds) (hloc : ∀ y ∈ binds, scope.names.lookup y.1 = some .local)
    (h : ∀ g L' h₁, Fr h₀ L g m → Fr g L' h₁ (fun y => binds.reverse.lookup y) → News g L' h₁ news → Below A base [env] g → (K0 w.params).In g → Top qv (looseW qv looseL) mean mg mb g → KtsDicts ([env].filterMap (·.frame)) g →
      wpAny (model pr w) (A.deeper (envOf qual scope L' f cdv)) (execs body (envOf qual scope L' f cdv))
        (fun fl s' => LeaveS0 ([env].filterMap (·.frame)) h₀ L m g R (match fl with | .ret v => v | _ => .none) s')
        (fun e s' => wpAny (model pr w) (A.deeper (envOf qual scope L' f cdv)) (leaving (envOf qual scope L' f cdv) e) (fun _ s'' => R (.error e) s'') (fun e' s'' => R (.error e') s'') s')
        { s with heap := h₁, toks := s.toks + binds.length })
    (hco : scope.isCoroutine = false) (hgen : scope.isGenerator = false) (hk : scope.kind = .function)
    (hcell : ∀ x ∈ scope.names, x.2 ≠ .cell) : codeAny (model pr w) A (.call (.ref f) args) R s := by
  have X := X₀.keeps F.keep
  refine codeAny_call_def (fd := fnOf name qual params body scope dV kV doc pm an cdv ct) (body := body) (binds := binds) hroom (X _ _ ho) rfl (T.nolimit.keeps F.keep) (codeRec_of X hcd) rfl hbind hcell hloc (fun h₁ hns hk₁ => ?_) hco hgen hk
  obtain ⟨oL, es, ep, hLg, hLd, hN, hNs, st, B₂⟩ := enterX B F N hA hf hke
  refine wpAny_mono (h _ s.heap.objs.size h₁ ⟨hN _ hLg, st, F.above⟩ ⟨hns, fun b o e => hk₁ b o (of_hideAll _ e), Nat.le_of_eq (hideAll_size _ _)⟩
    (fun p hp => ⟨hk₁ _ _ (N p hp).1, Nat.ne_of_lt (Heap.lt_size (N p hp).1), hideAll_none _ (List.mem_map_of_mem hp)⟩) B₂ (X₀.keeps st) (T.keeps st) (fun b hb => by
      rw [mem_env hf hb]; exact ⟨oL, es, ep, hLg, hLd⟩)) (fun fl s' hl => ?_) fun _ _ y => y
  obtain ⟨g', L', m', news', T', F', N', k⟩ := hl
  have nL₀ : h₀.get? L = none := kts_self F
  obtain ⟨sl, hs⟩ := T'.up hLg
  refine k ⟨hNs sl _ (F'.keep _ _ hs), fun b o e => F'.keep b o (T'.other b o (st b o e) (fun q => by
    rw [mem_env hf q, nL₀] at e; cases e)), F.above⟩ fun p hp => ⟨(N' p hp).1, fun q => ?_, ?_⟩
  · have := (N' p hp).2.2; rw [q, hs] at this; cases this
  · cases q : h₀.get? p.1 with
    | none => rfl
    | some o =>
      obtain ⟨sl', hs'⟩ := T'.up (st _ _ q)
      have := (N' p hp).2.2
      rw [hs'] at this
      cases this
end
noncomputable def CallS (w : World) (mean : ExcName → Option Value) (mg mb : Str → Option Value) (f : Addr) (d : Nat) (vs : List Value) (news : Led) (P : Value → Led → Prop) : Prop :=
  ∀ (dp un : Nat) (gd : Option (List Code)) (cn : Str) (cs : Scope) (a : Addr) (ccd : Value) (cl : List (Str × Addr)) (A₀ : Around) (base g : Heap) (L : Addr) (m : Str → Option Value) (s : Shared) (Q E : Value → Shared → Prop),
    Sit w mean mg mb A₀ base [] g L m news s.heap → (K0 w.params).In base → Top qv (looseW qv looseL) mean mg mb base → cs.kind = .function → dp + d ≤ 900 → un + 20 * d ≤ 9000 →
    (∀ r news' h' tk', P r news' → Fr g L h' m → News g L h' news' → Q r { s with heap := h', toks := tk' }) →
    wpAny (model pr w) (ktrTop dp un gd cn cs L a ccd cl []) (call (.ref f) vs) Q E s
noncomputable def BodyS (w : World) (mean : ExcName → Option Value) (mg mb : Str → Option Value) (f : Addr) (qual : Str) (sc : Scope) (cdv : Value) (bd : List Stmt) (d : Nat) (m : Str → Option Value) (news : Led) (P : Value → Led → Prop) : Prop :=
  ∀ (dp un : Nat) (gd : Option (List Code)) (env : Env) (A₀ : Around) (base g : Heap) (L : Addr) (s : Shared) (Q : Flow → Shared → Prop) (E : Value → Shared → Prop),
    Sit w mean mg mb A₀ base [env] g L m news s.heap → (K0 w.params).In base → Top qv (looseW qv looseL) mean mg mb base → KtsDicts ([env].filterMap (·.frame)) g → A₀.deeper (envX qual sc L f cdv []) = ktrTop dp un gd qual sc L f cdv [] [env] → dp + d ≤ 900 → un + 20 * d ≤ 9000 →
    (∀ r g' m' news' h' tk', P r news' → KtsTurn ([env].filterMap (·.frame)) g g' → Fr g' L h' m' → News g' L h' news' → Q (.ret r) { s with heap := h', toks := tk' }) →
    wpAny (model pr w) (ktrTop dp un gd qual sc L f cdv [] [env]) (execs bd (envX qual sc L f cdv [])) Q E s
theorem CallS.of {w : World} {mean : ExcName → Option Value} {mg mb : Str → Option Value} {f : Addr} {d : Nat} {vs : List Value} {news : Led} {P : Value → Led → Prop}
    {name qual : Str} {ps : Arguments} {bd : List Stmt} {sc : Scope} {dV kV doc pm cdv ct oc : Value} {an od : Option Addr} {osl : Array (Option Value)} {binds : List (Str × Value)}
    (ho : (K0 w.params).lookup f = some ⟨oc, od, .func (fnOf name qual ps bd sc dV kV doc pm an cdv ct), osl⟩) (hcd : codeIn (K0 w.params) cdv qual = true)
    (hbind : bindArgs (fnOf name qual ps bd sc dV kV doc pm an cdv ct) ⟨vs, []⟩ = pure binds)
    (body : BodyS w mean mg mb f qual sc cdv bd d (fun y => binds.reverse.lookup y) news P)
    (hloc : (binds.all fun x => decide (sc.names.lookup x.1 = some .local)) = true := by kernel_rfl)
    (hco : sc.isCoroutine = false := by rfl) (hgen : sc.isGenerator = false := by rfl) (hks : sc.kind = .function := by rfl) (hcell : ∀ x ∈ sc.names, x.2 ≠ .cell := by decide) : CallS w mean mg mb f (d + 1) vs news P := by
  intro dp un gd cn cs a ccd cl A₀ base g L m s Q E S XB TB hk hd hu ret
  refine wpAny_call (code_defSX (env := envX cn cs L a ccd cl) S.B S.F S.X S.N S.T rfl rfl hk ho hcd (by show dp < recursionLimit; simp only [recursionLimit]; omega) (BindsTo.of_eq hbind) (locs hloc) (fun g' L' h₁ FG F' N' B' X' T' D' => ?_) hco hgen hks hcell)
  refine body (dp + 1) (un + 3) gd (envX cn cs L a ccd cl) _ base g' L' _ _ _ ⟨B', F', X', N', T'⟩ XB TB D' rfl (by omega) (by omega) fun r g2 m' news' h' tk' hp hT F2 N2 => ?_
  exact leaveS0_ F2 N2 hT fun F3 N3 => ret _ news' _ _ hp F3 N3
section
variable {w : World} {A : Around} {env : Env} {h : Heap}
theorem PV.eqB {l r : Expr} {pos : Pos} {a b : Int} (x : PV pr w A env h l (IsI a)) (y : PV pr w A env h r (IsI b)) (hm : behindInMarks .Eq r = false := by with_unfolding_all rfl) : PV pr w A env h (.Compare l [.Eq] [r] pos) (· = .bool (a == b)) := fun s Q E hs q =>
  wpAny_Compare1 (x s _ _ hs fun u tk hu => by
    obtain ⟨t, rfl⟩ := hu
    refine y _ _ _ hs fun v tk' hv => ?_
    obtain ⟨t', rfl⟩ := hv
    exact eq_int (q _ _ rfl)) hm
theorem PV.isNoneB {l r : Expr} {pos : Pos} {v : Value} (x : PV pr w A env h l (· = v)) (y : PV pr w A env h r (· = .none)) (hm : behindInMarks .Is r = false := by with_unfolding_all rfl) : PV pr w A env h (.Compare l [.Is] [r] pos) (· = .bool (v == .none)) := fun s Q E hs q =>
  wpAny_Compare1 (x s _ _ hs fun u tk hu => by
    subst hu
    refine y _ _ _ hs fun v tk' hv => ?_
    subst hv
    exact is_none_gen (q _ _ rfl)) hm
noncomputable def DP (w : World) (A : Around) (env : Env) (h : Heap) (ks : List (Option Expr)) (vs : List Expr) (P : List (Value × Value) → Prop) : Prop :=
  ∀ (pos : Pos) (s : Shared) (Q : List (Value × Value) → Shared → Prop) (E : Value → Shared → Prop), s.heap = h → (∀ r tk, P r → Q r { s with toks := tk }) → wpAny (model pr w) A (evalPairs (pairTrees ks vs env pos)) Q E s
theorem DP.nil {P : List (Value × Value) → Prop} (p : P []) : DP w A env h [] [] P := fun pos s Q E hs q => evalPairs_nil (q [] s.toks p)
theorem DP.consI {i : Int} {kk : Nat} {kp : Pos} {v : Expr} {ks : List (Option Expr)} {vs : List Expr} {P : Value → Prop} {R : List (Value × Value) → Prop} (x : PV pr w A env h v P) (y : ∀ t u, P u → DP w A env h ks vs fun r => R ((.int i t, u) :: r)) :
    DP w A env h (some (.Constant (.int i) kk kp) :: ks) (v :: vs) R := fun pos s Q E hs q => by
  refine evalPairs_cons (wpAny_Constant_int ?_)
  refine wpAny_bind (x _ _ _ hs fun u tk p => ?_)
  refine wpAny_bind (wpAny_standAt (wpAny_pure ?_))
  exact y _ u p pos _ _ _ hs fun r tk' hr => q _ tk' hr
end
section
variable {w : World} {a : At} {news : Led}
noncomputable def DictI (w : World) (R : List (Int × Value) → Led → Prop) : Value → Led → Prop := fun v n => ∃ d od kvs, v = .ref d ∧ (d, od) ∈ n ∧ od.IsDictOf (intKind pr w) kvs ∧ (d == sysModules) = false ∧ R kvs n
theorem EV.dictI {ks : List (Option Expr)} {vs : List Expr} {pos : Pos} {R : List (Value × Value) → Prop} (nl : a.g.NoLimit) (dp : ∀ h, Fr a.g a.L h a.m → DP w a.A a.env h ks vs R) (hR : ∀ r, R r → allIntKeys r = true ∧ ((intKeyPairs r).map (·.1)).Nodup)
    (hI : intLits ks = true := by rfl) (hall : ks.all (·.isSome) = true := by rfl) (hl : ks.length = vs.length := by rfl) (h0 : ks ≠ [] := by simp) (hlen : ks.length ≤ 15 := by decide) :
    EV w a news (.Dict ks vs pos) (fun v n => ∃ d od r, v = .ref d ∧ n = (d, od) :: news ∧ R r ∧ od.IsDictOf (intKind pr w) (intKeyPairs r) ∧ (d == sysModules) = false) := by
  intro s Q E F N q
  refine Dict_made_int hI F hall hl h0 hlen fun F2 => ?_
  refine dp _ F2 pos _ _ _ rfl fun r tk hr => ?_
  exact made_int F N (hR r hr).1 (hR r hr).2 fun h' od F' N' hd => q _ _ h' _ ⟨_, od, r, rfl, rfl, hr, hd, F.notModules (modules_low nl)⟩ F' N'
theorem EV.getI1 {o e : Expr} {apos pos : Pos} {k : Int} {R : List (Int × Value) → Led → Prop} (x : EV w a news o (DictI w R)) (y : ∀ n, EV w a n e (Same n (IsI k)))
    (hbase : attributeBase o "get" a.env (eval o a.env) = eval o a.env := by rfl) (hline : (apos.endLine == pos.line) = true := by rfl) (htrees : backTo pos (starEach [e] a.env) = [(false, eval e a.env)] := by rfl) :
    EV w a news (.Call (.Attribute o "get" apos) [e] [] pos) (fun v n => ∃ kvs, R kvs n ∧ v = (valueAt kvs k).getD .none) := by
  intro s Q E F N q
  refine wpAny_Call_method1_late hbase hline htrees (x s _ _ F N fun v n h1 tk hv F1 N1 => ?_)
  obtain ⟨d, od, kvs, rfl, hm, hd, lo, hR⟩ := hv
  have M1 : h1.MapOf (intKind pr w) d (valueAt kvs) := (kda_dict (s := { s with heap := h1, toks := tk }) N1 hm hd).mapOf
  refine ⟨"dict", "dict.get", PySem.F.plainAttrs_dict, PySem.F.slot_dict_get, PySem.F.type_dict_get, M1.typeIs, M1.noDict, wpAny_dict_get1 (knd := intKind pr w) lo (y n _ _ _ F1 N1 fun v n' h2 tk' hv F2 N2 => ?_)⟩
  obtain ⟨⟨t, rfl⟩, rfl⟩ := hv
  have M2 : h2.MapOf (intKind pr w) d (valueAt kvs) := (kda_dict (s := { s with heap := h2, toks := tk' }) N2 hm hd).mapOf
  exact ⟨k, _, intKind_is pr w k t, M2, q _ n' h2 _ ⟨kvs, hR, rfl⟩ F2 N2⟩
theorem EV.getI2 {o e f : Expr} {apos pos : Pos} {k : Int} {R : List (Int × Value) → Led → Prop} {Pd : Value → Led → Led → Prop} (x : EV w a news o (DictI w R)) (y : ∀ n, EV w a n e (Same n (IsI k))) (z : ∀ n, EV w a n f (fun v n' => Pd v n n')) (hz : ∀ v n n', Pd v n n' → ∀ p ∈ n, p ∈ n')
    (hbase : attributeBase o "get" a.env (eval o a.env) = eval o a.env := by rfl) (hline : (apos.endLine == pos.line) = true := by rfl) (htrees : backTo pos (starEach [e, f] a.env) = [(false, eval e a.env), (false, eval f a.env)] := by rfl) :
    EV w a news (.Call (.Attribute o "get" apos) [e, f] [] pos) (fun v n => ∃ kvs n1 dv, R kvs n1 ∧ Pd dv n1 n ∧ v = (valueAt kvs k).getD dv) := by
  intro s Q E F N q
  refine wpAny_Call_method2_late hbase hline htrees (x s _ _ F N fun v n h1 tk hv F1 N1 => ?_)
  obtain ⟨d, od, kvs, rfl, hm, hd, lo, hR⟩ := hv
  have M1 : h1.MapOf (intKind pr w) d (valueAt kvs) := (kda_dict (s := { s with heap := h1, toks := tk }) N1 hm hd).mapOf
  refine ⟨"dict", "dict.get", PySem.F.plainAttrs_dict, PySem.F.slot_dict_get, PySem.F.type_dict_get, M1.typeIs, M1.noDict, wpAny_dict_get2 (knd := intKind pr w) lo (y n _ _ _ F1 N1 fun v n' h2 tk' hv F2 N2 => ?_)⟩
  obtain ⟨⟨t, rfl⟩, rfl⟩ := hv
  refine z n' _ _ _ F2 N2 fun dv n3 h3 tk3 hv F3 N3 => ?_
  have M2 : h3.MapOf (intKind pr w) d (valueAt kvs) := (kda_dict (s := { s with heap := h3, toks := tk3 }) N3 (hz _ _ _ hv _ hm) hd).mapOf
  exact ⟨k, _, intKind_is pr w k t, M2, q _ n3 h3 _ ⟨kvs, n', dv, hR, hv, rfl⟩ F3 N3⟩
noncomputable def IsL (o : Obj) (items : Array Value) : Prop := o.cls = .type "list" ∧ ∃ n, o.data = .seq items n
theorem isL_new (items : Array Value) (k : Nat) : IsL ⟨.type "list", none, .seq items k, #[]⟩ items := ⟨rfl, k, rfl⟩
noncomputable def ListV (R : Array Value → Led → Prop) : Value → Led → Prop := fun v n => ∃ l o items, v = .ref l ∧ (l, o) ∈ n ∧ IsL o items ∧ R items n
theorem EV.list {elts : List Expr} {pos : Pos} {P : List Value → Led → Prop} (y : EVs w a news elts P) (hl : ∀ vs n, P vs n → vs.length ≤ 100) :
    EV w a news (.List elts pos) (fun v n => ∃ l vs n1, v = .ref l ∧ P vs n1 ∧ n = (l, ⟨.type "list", none, .seq vs.toArray 0, #[]⟩) :: n1 ∧ ∀ p ∈ n1, p.1 ≠ l) := by
  intro s Q E F N q
  refine List_ (y _ _ _ _ F N fun vs n' h2 tk' hv F2 N2 => ?_)
  refine newList_N (s := { s with heap := h2, toks := tk' }) F2 N2 (fun h3 F3 N3 => ?_) (Nat.le_trans (hl vs n' hv) (by decide))
  exact q _ _ h3 tk' ⟨_, vs, n', rfl, hv, rfl, fun p hp => Nat.ne_of_lt (Heap.lt_size (N2 p hp).1)⟩ F3 N3
theorem EV.itemL {value slice : Expr} {pos : Pos} {k : Int} {R : Array Value → Led → Prop} (x : EV w a news value (ListV R)) (y : ∀ n, EV w a n slice (Same n (IsI k))) (h0 : 0 ≤ k) (h1 : k < 2 ^ 63) (hx : ∀ items n, R items n → ∃ v, items[k.toNat]? = some v)
    (hs' : ∀ l t, subscripted slice false (.ref l) (.int k t) = operate [.ref l, .int k t] (getItem (.ref l) (.int k t)) := by intro _ _; with_unfolding_all rfl) :
    EV w a news (.Subscript value slice pos) (fun v n => ∃ items, R items n ∧ items[k.toNat]? = some v) := by
  intro s Q E F N q
  refine Subscript_ (x s _ _ F N fun u n h1' tk hu F1 N1 => ?_)
  obtain ⟨l, o, items, rfl, hm, hL, hR⟩ := hu
  refine y n _ _ _ F1 N1 fun i n' h2 tk' hi F2 N2 => ?_
  obtain ⟨⟨t, rfl⟩, rfl⟩ := hi
  obtain ⟨v, hv⟩ := hx items n' hR
  have hl : h2.IsList l items := ⟨o, N2.get hm, hL⟩
  exact tail_any (s := { s with heap := h2, toks := tk' }) (T := "list") ⟨_, N2.get hm, hL.1⟩ slot_list_getitem.lookup (wpAny_getItem_list hl h0 h1 hv (q v n' h2 _ ⟨items, hR, hv⟩ F2 N2)) (hs' l t)
end
section
variable {w : World} {a : At} {news : Led} {cn : Str} {cs : Scope} {L f : Addr} {ccd : Value} {cl : List (Str × Addr)} {s : Shared} {bd rest : List Stmt} {Q : Flow → Shared → Prop} {E : Value → Shared → Prop} {pos np : Pos} {x : Str} {e : Expr} {P : Value → Led → Prop}
theorem st_assignV (henv : a.env = envX cn cs L f ccd cl) (hL : a.L = L) (hb : bd = .Assign [.Name x np] e pos :: rest) (F : Fr a.g a.L s.heap a.m) (N : News a.g a.L s.heap news) (ev : ∀ e', e' = e → EV w a news e' P)
    (k : ∀ v n h' tk bd', bd' = rest → P v n → Fr a.g L h' (fun y => if y = x then some v else a.m y) → News a.g L h' n → wpAny (model pr w) a.A (execs bd' (envX cn cs L f ccd cl)) Q E { s with heap := h', toks := tk })
    (hk : cs.kind = .function := by rfl) (hx : (envX cn cs L f ccd cl).kindOf x = some .local := by rfl) (hs : swapsWith e (some (.Name x np)) pos.line (envX cn cs L f ccd cl) = pure false := by rfl) :
    wpAny (model pr w) a.A (execs bd (envX cn cs L f ccd cl)) Q E s := by
  subst hb
  exact st_assignE henv hL F N (ev e rfl) (fun v n h' tk p F' N' => k v n h' tk rest rfl p F' N') hk hx hs
theorem st_returnV {env : Env} (henv : a.env = env) (hb : bd = .Return (some e) pos :: rest) (F : Fr a.g a.L s.heap a.m) (N : News a.g a.L s.heap news) (ev : ∀ e', e' = e → EV w a news e' P)
    (k : ∀ v n h' tk, P v n → Fr a.g a.L h' a.m → News a.g a.L h' n → Q (.ret v) { s with heap := h', toks := tk }) :
    wpAny (model pr w) a.A (execs bd env) Q E s := by
  subst hb
  exact st_returnE henv F N (ev e rfl) k
theorem st_ifV {env : Env} {body : List Stmt} {b : Bool} (henv : a.env = env) (hb : bd = .If e body [] pos :: rest) (F : Fr a.g a.L s.heap a.m) (N : News a.g a.L s.heap news) (te : ∀ e', e' = e → TE w a news e' b)
    (kt : b = true → ∀ h tk bd', bd' = body → Fr a.g a.L h a.m → News a.g a.L h news → wpAny (model pr w) a.A (execs bd' env) (fun f s' => match f with | .next => wpAny (model pr w) a.A (execs rest env) Q E s' | f => Q f s') E { s with heap := h, toks := tk })
    (kf : b = false → ∀ h tk bd', bd' = rest → Fr a.g a.L h a.m → News a.g a.L h news → wpAny (model pr w) a.A (execs bd' env) Q E { s with heap := h, toks := tk }) :
    wpAny (model pr w) a.A (execs bd env) Q E s := by
  subst hb
  refine st_ifE henv F N (te e rfl) fun h tk F1 N1 => ?_
  cases b with
  | true => exact kt rfl h tk body rfl F1 N1
  | false => exact nextStep (kf rfl h tk rest rfl F1 N1)
end
inductive CSum : Expr → Int → Prop
  | c (i : Int) (kk : Nat) (p : Pos) : CSum (.Constant (.int i) kk p) i
  | add {l r : Expr} {p : Pos} {i j k : Int} : CSum l i → CSum r j → i + j = k → CSum (.BinOp l .Add r p) k
theorem PV.csum {w : World} {A : Around} {env : Env} {h : Heap} {e : Expr} {i : Int} (c : CSum e i) : PV pr w A env h e (IsI i) := by
  induction c with
  | c i kk p => exact .const i kk p
  | add x y hk a b => exact hk ▸ .add a b
inductive Cst
  | i (k : Int)
  | s (x : Str)
  | no
noncomputable def Cst.is (c : Cst) : Value → Prop := match c with
  | .i n => IsI n
  | .s x => IsS x
  | .no => (· = .none)
inductive IsC : Expr → Cst → Prop
  | i (i : Int) (kk : Nat) (p : Pos) : IsC (.Constant (.int i) kk p) (.i i)
  | s (x : Str) (kk : Nat) (p : Pos) : IsC (.Constant (.str x) kk p) (.s x)
  | no (kk : Nat) (p : Pos) : IsC (.Constant .none kk p) .no
theorem PV.cst {w : World} {A : Around} {env : Env} {h : Heap} {e : Expr} {c : Cst} (x : IsC e c) : PV pr w A env h e c.is := by
  cases x with
  | i i kk p => exact .const i kk p
  | s x kk p => exact .constS x kk p
  | no kk p => exact .constN kk p
inductive IsCs : List Expr → List Cst → Prop
  | nil : IsCs [] []
  | cons {e : Expr} {c : Cst} {es : List Expr} {cs : List Cst} : IsC e c → IsCs es cs → IsCs (e :: es) (c :: cs)
inductive AreC : List Value → List Cst → Prop
  | nil : AreC [] []
  | cons {v : Value} {c : Cst} {vs : List Value} {cs : List Cst} : c.is v → AreC vs cs → AreC (v :: vs) (c :: cs)
theorem AreC.length {vs : List Value} {cs : List Cst} (x : AreC vs cs) : vs.length = cs.length := by
  induction x with
  | nil => rfl
  | cons _ _ ih => simp [ih]
theorem AreC.get {vs : List Value} {cs : List Cst} (x : AreC vs cs) : ∀ (i : Nat) (c : Cst), cs[i]? = some c → ∃ v, vs[i]? = some v ∧ c.is v := by
  induction x with
  | nil => intro i c h; simp at h
  | cons hv _ ih =>
    intro i c h
    cases i with
    | zero => simp at h; subst h; exact ⟨_, rfl, hv⟩
    | succ i => exact ih i c (by simpa using h)
theorem starEach_cst {e : Expr} {c : Cst} {es : List Expr} {env : Env} (x : IsC e c) : starEach (e :: es) env = (false, eval e env) :: starEach es env := by
  cases x <;> rfl
section
variable {w : World} {a : At} {news : Led}
theorem EVs.cst {es : List Expr} {cs : List Cst} (x : IsCs es cs) : EVs w a news es fun vs n => AreC vs cs ∧ n = news := by
  induction x with
  | nil => exact .nil ⟨.nil, rfl⟩
  | cons hc _ ih =>
    refine EVs.cons (EV.pv fun h F N => .cst hc) (fun v n hv => ?_) (starEach_cst hc)
    obtain ⟨hv, rfl⟩ := hv
    intro pos s Q E F N q
    exact ih pos s _ _ F N fun vs n' h' tk hp F' N' => q vs n' h' tk ⟨.cons hv hp.1, hp.2⟩ F' N'
theorem EV.listC {e : Expr} {elts : List Expr} {pos : Pos} {cs : List Cst} (he : e = .List elts pos) (x : IsCs elts cs) (hl : cs.length ≤ 100 := by decide) :
    EV w a news e (fun v n => ∃ l vs, v = .ref l ∧ AreC vs cs ∧ n = (l, ⟨.type "list", none, .seq vs.toArray 0, #[]⟩) :: news ∧ ∀ p ∈ news, p.1 ≠ l) := by
  subst he
  refine (EV.list (EVs.cst x) fun vs n hv => by rw [hv.1.length]; exact hl).mono fun v n hv => ?_
  obtain ⟨l, vs, n1, rfl, ⟨ha, rfl⟩, rfl, hn⟩ := hv
  exact ⟨l, vs, rfl, ha, rfl, hn⟩
end
inductive DKs (R : Expr → (Value → Prop) → Prop) : List (Option Expr) → List Expr → List (Int × (Value → Prop)) → Prop
  | nil : DKs R [] [] []
  | cons {i : Int} {kk : Nat} {p : Pos} {v : Expr} {P : Value → Prop} {ks : List (Option Expr)} {vs : List Expr} {ps : List (Int × (Value → Prop))} : R v P → DKs R ks vs ps → DKs R (some (.Constant (.int i) kk p) :: ks) (v :: vs) ((i, P) :: ps)
inductive AreD : List (Value × Value) → List (Int × (Value → Prop)) → Prop
  | nil : AreD [] []
  | cons {i : Int} {t : Tok} {v : Value} {P : Value → Prop} {r : List (Value × Value)} {ps : List (Int × (Value → Prop))} : P v → AreD r ps → AreD ((.int i t, v) :: r) ((i, P) :: ps)
theorem AreD.keys {r : List (Value × Value)} {ps : List (Int × (Value → Prop))} (x : AreD r ps) : allIntKeys r = true ∧ (intKeyPairs r).map (·.1) = ps.map (·.1) := by
  induction x with
  | nil => exact ⟨rfl, rfl⟩
  | cons hp _ ih => exact ⟨ih.1, by simp only [intKeyPairs, List.map_cons, ih.2]⟩
theorem AreD.at {r : List (Value × Value)} {ps : List (Int × (Value → Prop))} (x : AreD r ps) (k : Int) : match ps.lookup k with | none => valueAt (intKeyPairs r) k = none | some P => ∃ v, valueAt (intKeyPairs r) k = some v ∧ P v := by
  induction x with
  | nil => rfl
  | @cons i t v P r ps hp _ ih =>
    rw [List.lookup_cons]
    by_cases h : k = i
    · subst h
      simp only [beq_self_eq_true]
      exact ⟨v, by simp [intKeyPairs, valueAt], hp⟩
    · have h1 : (k == i) = false := by simpa using h
      have h2 : ¬ i = k := fun e => h e.symm
      rw [h1]
      simp only [intKeyPairs, valueAt, List.find?_cons, h2, decide_false] at ih ⊢
      exact ih
theorem DP.dks {w : World} {A : Around} {env : Env} {h : Heap} {R : Expr → (Value → Prop) → Prop} (pv : ∀ v P, R v P → PV pr w A env h v P) {ks : List (Option Expr)} {vs : List Expr} {ps : List (Int × (Value → Prop))} (x : DKs R ks vs ps) : DP w A env h ks vs fun r => AreD r ps := by
  induction x with
  | nil => exact .nil .nil
  | cons hv _ ih =>
    refine .consI (pv _ _ hv) fun t u hu => ?_
    intro pos s Q E hs q
    exact ih pos s _ _ hs fun r tk hr => q _ tk (.cons hu hr)
theorem DKs.shape {R : Expr → (Value → Prop) → Prop} {ks : List (Option Expr)} {vs : List Expr} {ps : List (Int × (Value → Prop))} (x : DKs R ks vs ps) : intLits ks = true ∧ ks.all (·.isSome) = true ∧ ks.length = vs.length ∧ ks.length = ps.length := by
  induction x with
  | nil => exact ⟨rfl, rfl, rfl, rfl⟩
  | cons hv _ ih => exact ⟨ih.1, by simpa using ih.2.1, by simpa using ih.2.2.1, by simpa using ih.2.2.2⟩
theorem EV.dictD {w : World} {a : At} {news : Led} {e : Expr} {ks : List (Option Expr)} {vs : List Expr} {pos : Pos} {ps : List (Int × (Value → Prop))} {R : Expr → (Value → Prop) → Prop} (he : e = .Dict ks vs pos) (nl : a.g.NoLimit) (x : DKs R ks vs ps) (pv : ∀ h v P, Fr a.g a.L h a.m → R v P → PV pr w a.A a.env h v P)
    (hn : (ps.map (·.1)).Nodup := by decide) (h0 : ps.length ≠ 0 := by decide) (hlen : ps.length ≤ 15 := by decide) :
    EV w a news e (fun v n => ∃ d od r, v = .ref d ∧ n = (d, od) :: news ∧ AreD r ps ∧ od.IsDictOf (intKind pr w) (intKeyPairs r) ∧ (d == sysModules) = false) := by
  subst he
  obtain ⟨s1, s2, s3, s4⟩ := x.shape
  exact EV.dictI nl (fun h F => .dks (fun v P => pv h v P F) x) (fun r hr => ⟨hr.keys.1, by rw [hr.keys.2]; exact hn⟩) s1 s2 s3 (fun z => h0 (by rw [← s4, z]; rfl)) (by omega)
section
variable {w : World} {A : Around} {g h : Heap} {L f : Addr} {m : Str → Option Value} {cn : Str} {cs : Scope} {ccd : Value} {cl : List (Str × Addr)} {mean : ExcName → Option Value} {mg mb : Str → Option Value}
theorem PV.intOfB {np pos : Pos} {e : Expr} {b : Bool} (F : Fr g L h m) (X : (K0 w.params).In g) (T : Top qv (looseW qv looseL) mean mg mb g) (x : PV pr w A (envX cn cs L f ccd cl) h e (· = .bool b))
    (hk : cs.kind = .function := by rfl) (h1 : (envX cn cs L f ccd cl).kindOf "int" = some .globalImplicit := by rfl)
    (he : starEach [e] (envX cn cs L f ccd cl) = (false, eval e (envX cn cs L f ccd cl)) :: starEach [] (envX cn cs L f ccd cl) := by rfl) :
    PV pr w A (envX cn cs L f ccd cl) h (.Call (.Name "int" np) [e] [] pos) (IsI (if b then 1 else 0)) := fun s Q E hs q => by
  subst hs
  refine wpAny_Call_ofName (nameX_B F X (topRead_of T) (v := .type "int") (by kernel_rfl) PyProof.Rows.Boot.«int» (by decide) ?_ hk h1 (by decide))
  refine PyProof.Rows.callWith_type1 (spliced_more (x.use fun v tk hv => ?_) he) he
  subst hv
  exact spliced_none (call_int_bool (q _ _ ⟨_, rfl⟩))
end
noncomputable def manyF (high rd : Int) : Int := 32 + (if high = 0 then 10 else if high = 1 then 8 else if high = 32 then 3 else if high = 9 then (if rd == 0 then 1 else 0) else 0)
noncomputable abbrev mA (dp un : Nat) (gd : Option (List Code)) (L : Addr) (outer : List Env) : Around := ktrTop dp un gd (Str.ofString "_law_many") scF40 L 1122 (Value.ref 1121) [] outer
noncomputable abbrev mE (L : Addr) : Env := envX "_law_many" scF40 L 1122 (.ref 1121) []
noncomputable abbrev mAt (dp un : Nat) (gd : Option (List Code)) (g : Heap) (L : Addr) (outer : List Env) (m : Str → Option Value) : At := ⟨mA dp un gd L outer, mE L, g, L, m⟩
inductive MV (rd : Int) : Expr → (Value → Prop) → Prop
  | sum {e : Expr} {i : Int} : CSum e i → MV rd e (IsI i)
  | rd (p1 p2 p3 p4 : Pos) (kk : Nat) (p5 : Pos) : MV rd (.Call (.Name "int" p1) [.Compare (.Name "rd" p2) [.Eq] [.Constant (.int 0) kk p3] p4] [] p5) (IsI (if rd == 0 then 1 else 0))
theorem many {w : World} {mean : ExcName → Option Value} {mg mb : Str → Option Value} {news : Led} {hi rd : Int} {t u : Tok} :
    Call w mean mg mb 1122 1 [.int hi t, .int rd u] news (fun r n => IsI (manyF hi rd) r ∧ ∀ p ∈ news, p ∈ n) := by
  refine Call.of (fo1122 _) (co1122 _) (binds := [("high", .int hi t), ("rd", .int rd u)]) (by kernel_rfl) ?_
  intro dp un gd outer A₀ base g L s Q E S hd hu ret
  have nmI := fun {h : Heap} {m : Str → Option Value} (F : Fr g L h m) (y : Str) (p : Pos) (i : Int) (t : Tok) (e : m y = some (.int i t)) hx hd => PV.nameI (prog := pr) (w := w) (A := mA dp un gd L outer) (cn := "_law_many") (cs := scF40) (a := 1122) (ccd := .ref 1121) (cl := []) (x := y) (pos := p) (i := i) (t := t) F e rfl hx hd
  obtain ⟨bd, hbd⟩ : ∃ bd, bd = bdF40 := ⟨_, rfl⟩
  rw [← hbd]
  refine st_assignV (a := mAt dp un gd g L outer (fun y => ([("high", Value.int hi t), ("rd", Value.int rd u)] : List (Str × Value)).reverse.lookup y)) (x := "found") (P := Same news (IsI 32)) rfl rfl (hbd.trans rfl) S.F S.N (fun e' he => by
    have c : CSum e' 32 := he ▸ (.add (.add (.add (.add (.add (.add (.add (.c 5 _ _) (.c 2 _ _) rfl) (.c 6 _ _) rfl) (.c 3 _ _) rfl) (.c 6 _ _) rfl) (.c 1 _ _) rfl) (.c 6 _ _) rfl) (.c 3 _ _) rfl)
    exact .pv fun h F N => .csum c) ?_
  intro v n1 h1 tk1 bd1 hb1 hv F1 N1
  obtain ⟨⟨kf, rfl⟩, rfl⟩ := hv
  refine st_assignV (a := mAt dp un gd g L outer (fun y => if y = "found" then some (.int 32 kf) else ([("high", Value.int hi t), ("rd", Value.int rd u)] : List (Str × Value)).reverse.lookup y)) (s := { s with heap := h1, toks := tk1 }) (x := "by_high") rfl rfl hb1 F1 N1 (fun e' he => EV.dictD (ps := [(0, IsI 10), (1, IsI 8), (32, IsI 3), (9, IsI (if rd == 0 then 1 else 0))]) (R := MV rd) (hn := show ([0, 1, 32, 9] : List Int).Nodup by decide) (h0 := by simp) (hlen := by simp) he S.T.nolimit
    (.cons (.sum (.add (.c 2 _ _) (.c 8 _ _) rfl)) (.cons (.sum (.c 8 _ _)) (.cons (.sum (.add (.c 1 _ _) (.c 2 _ _) rfl)) (.cons (.rd _ _ _ _ _ _) .nil))))
    (fun h v P F hR => by
      cases hR with
      | sum c => exact .csum c
      | rd p1 p2 p3 p4 kk p5 => exact .intOfB F S.X S.T (.eqB (nmI F "rd" _ rd u rfl rfl (by decide)) (.const 0 _ _)))) ?_
  intro v n2 h2 tk2 bd2 hb2 hv F2 N2
  obtain ⟨d, od, r, rfl, rfl, hr, hod, lo⟩ := hv
  generalize hm2 : (fun y : Str => if y = "by_high" then some (Value.ref d) else (fun y : Str => if y = "found" then some (Value.int 32 kf) else ([("high", Value.int hi t), ("rd", Value.int rd u)] : List (Str × Value)).reverse.lookup y) y) = m2 at F2
  have e1 : m2 "by_high" = some (.ref d) := by rw [← hm2]; rfl
  have e2 : m2 "found" = some (.int 32 kf) := by rw [← hm2]; rfl
  have e3 : m2 "high" = some (.int hi t) := by rw [← hm2]; rfl
  refine st_returnV (a := mAt dp un gd g L outer m2) (s := { s with heap := h2, toks := tk2 }) (P := Same ((d, od) :: n1) (IsI (32 + (manyF hi rd - 32)))) rfl hb2 F2 N2 (fun e' he => ?_) fun v n h' tk' p F' N' => ?_
  · subst he
    refine EV.bin (i := 32) (j := manyF hi rd - 32) (.pv fun h F N => nmI F "found" _ 32 kf e2 rfl (by decide)) ?_ fun s t u Q E q => add_int (q _ _)
    refine (EV.getI2 (R := fun kvs n => kvs = intKeyPairs r ∧ n = (d, od) :: n1) (Pd := fun v n n' => IsI 0 v ∧ n' = n) (k := hi) ?_ (fun n => .pv fun h F N => nmI F "high" _ hi t e3 rfl (by decide)) (fun n => .pv fun h F N => .const 0 _ _) (fun v n n' hp p hq => hp.2 ▸ hq)).mono ?_
    · exact (EV.pv (P := (· = .ref d)) fun h F N => .name (P := (· = .ref d)) (cn := "_law_many") (cs := scF40) (a := 1122) (ccd := .ref 1121) (cl := []) F e1 rfl).mono fun v n hv => by
        obtain ⟨rfl, rfl⟩ := hv
        exact ⟨d, od, _, rfl, .head _, hod, lo, rfl, rfl⟩
    · rintro v n ⟨kvs, n0, dv, ⟨rfl, rfl⟩, ⟨⟨z, rfl⟩, rfl⟩, rfl⟩
      refine ⟨?_, rfl⟩
      have key := hr.at hi
      unfold manyF
      by_cases a0 : hi = 0
      · subst a0
        obtain ⟨v, hv, hp⟩ := key
        rw [hv]; exact hp
      by_cases a1 : hi = 1
      · subst a1
        obtain ⟨v, hv, hp⟩ := key
        rw [hv]; exact hp
      by_cases a2 : hi = 32
      · subst a2
        obtain ⟨v, hv, hp⟩ := key
        rw [hv]; exact hp
      by_cases a3 : hi = 9
      · subst a3
        obtain ⟨v, hv, hp⟩ := key
        rw [hv, if_neg (by decide), if_neg (by decide), if_neg (by decide), if_pos rfl, show ∀ x : Int, 32 + x - 32 = x from fun x => by omega]
        exact hp
      · have z0 : (hi == 0) = false := by simpa using a0
        have z1 : (hi == 1) = false := by simpa using a1
        have z2 : (hi == 32) = false := by simpa using a2
        have z3 : (hi == 9) = false := by simpa using a3
        simp only [List.lookup_cons, z0, z1, z2, z3, List.lookup_nil] at key
        rw [key, if_neg a0, if_neg a1, if_neg a2, if_neg a3]
        exact ⟨z, rfl⟩
  · obtain ⟨⟨z, rfl⟩, rfl⟩ := p
    exact ret _ _ _ _ _ _ ⟨⟨z, by rw [show ∀ x : Int, 32 + (x - 32) = x from fun x => by omega]⟩, fun p hp => .tail _ hp⟩ (.inl rfl) F' N'
section
variable {w : World} {a : At} {news : Led}
theorem EV.len {cn : Str} {cs : Scope} {L f0 : Addr} {ccd : Value} {cl : List (Str × Addr)} {mean : ExcName → Option Value} {mg mb : Str → Option Value} {e : Expr} {np pos : Pos} {R : Array Value → Led → Prop} (henv : a.env = envX cn cs L f0 ccd cl) (hL : a.L = L) (X : (K0 w.params).In a.g) (T : Top qv (looseW qv looseL) mean mg mb a.g)
    (x : EV w a news e (ListV R)) (hz : ∀ items n, R items n → items.size < 2 ^ 40)
    (hk : cs.kind = .function := by rfl) (h1 : (envX cn cs L f0 ccd cl).kindOf "len" = some .globalImplicit := by rfl)
    (he : starEach [e] (envX cn cs L f0 ccd cl) = (false, eval e (envX cn cs L f0 ccd cl)) :: starEach [] (envX cn cs L f0 ccd cl) := by rfl) :
    EV w a news (.Call (.Name "len" np) [e] [] pos) (fun v n => ∃ items, R items n ∧ IsI items.size v) := by
  subst hL
  intro s Q E F N q
  have x' := x
  unfold EV at x'
  rw [henv] at x' ⊢
  refine wpAny_Call_ofName (nameX_B F X (topRead_of T) (v := .builtin "len") (by kernel_rfl) PyProof.Rows.Boot.«len» (by decide) ?_ hk h1 (by decide))
  refine PyProof.Rows.callWith_builtin1 (spliced_more (x' _ _ _ F N fun v n h2 tk hv F2 N2 => ?_) he) he
  obtain ⟨l, o, items, rfl, hm, hLo, hR⟩ := hv
  refine spliced_none (call_len_list (s := { s with heap := h2, toks := tk }) ⟨o, N2.get hm, hLo⟩ (by have := hz items n hR; omega) ?_)
  exact q _ n h2 _ ⟨items, hR, ⟨_, rfl⟩⟩ F2 N2
theorem EV.abs {cn : Str} {cs : Scope} {L f0 : Addr} {ccd : Value} {cl : List (Str × Addr)} {mean : ExcName → Option Value} {mg mb : Str → Option Value} {e : Expr} {np pos : Pos} {P : Int → Prop} {n0 : Led} (henv : a.env = envX cn cs L f0 ccd cl) (hL : a.L = L) (X : (K0 w.params).In a.g) (T : Top qv (looseW qv looseL) mean mg mb a.g)
    (x : EV w a news e (fun v n => (∃ i, P i ∧ IsI i v) ∧ n = n0))
    (hk : cs.kind = .function := by rfl) (h1 : (envX cn cs L f0 ccd cl).kindOf "abs" = some .globalImplicit := by rfl)
    (he : starEach [e] (envX cn cs L f0 ccd cl) = (false, eval e (envX cn cs L f0 ccd cl)) :: starEach [] (envX cn cs L f0 ccd cl) := by rfl) :
    EV w a news (.Call (.Name "abs" np) [e] [] pos) (fun v n => (∃ i, P i ∧ IsI i.natAbs v) ∧ n = n0) := by
  subst hL
  intro s Q E F N q
  have x' := x
  unfold EV at x'
  rw [henv] at x' ⊢
  refine wpAny_Call_ofName (nameX_B F X (topRead_of T) (v := .builtin "abs") (by kernel_rfl) PyProof.Rows.boot_abs (by decide) ?_ hk h1 (by decide))
  refine PyProof.Rows.callWith_builtin1 (spliced_more (x' _ _ _ F N fun v n h2 tk hv F2 N2 => ?_) he) he
  obtain ⟨⟨i, hP, ⟨t, rfl⟩⟩, rfl⟩ := hv
  refine spliced_none (call_abs_int (s := { s with heap := h2, toks := tk }) fun u tk' => ?_)
  exact q _ n h2 _ ⟨⟨i, hP, ⟨u, by rw [show (if i < 0 then -i else i) = (i.natAbs : Int) by split <;> omega]⟩⟩, rfl⟩ F2 N2
end
section
variable {w : World} {a : At} {news : Led}
theorem TE.ltI {l r : Expr} {pos : Pos} {i j : Int} (x : EV w a news l (Same news (IsI i))) (y : EV w a news r (Same news (IsI j))) (hm : behindInMarks .Lt r = false := by with_unfolding_all rfl) : TE w a news (.Compare l [.Lt] [r] pos) (decide (i < j)) := fun s Q E F N q => by
  refine wpAny_isTrue_Compare1 (x s _ _ F N fun v n h1 tk hv F1 N1 => ?_) hm
  obtain ⟨⟨t, rfl⟩, rfl⟩ := hv
  refine y _ _ _ F1 N1 fun v n' h2 tk' hv F2 N2 => ?_
  obtain ⟨⟨t', rfl⟩, rfl⟩ := hv
  exact lt_int (wpAny_truthy_bool (q h2 _ F2 N2))
theorem EV.modX {l r : Expr} {pos : Pos} {b : Int} (x : EV w a news l (fun v n => (∃ i, IsI i v) ∧ n = news)) (y : EV w a news r (Same news (IsI b))) (hb : 0 < b) : EV w a news (.BinOp l .Mod r pos) (fun v n => (∃ k, 0 ≤ k ∧ k < b ∧ IsI k v) ∧ n = news) := fun s Q E F N q => by
  refine wpAny_BinOp (x s _ _ F N fun v n h1 tk hv F1 N1 => ?_)
  obtain ⟨⟨i, t, rfl⟩, rfl⟩ := hv
  refine y _ _ _ F1 N1 fun v n' h2 tk' hv F2 N2 => ?_
  obtain ⟨⟨u, rfl⟩, rfl⟩ := hv
  refine mod_int' (by omega) (q _ n' h2 _ ⟨⟨i.fmod b, ?_, ?_, ⟨_, rfl⟩⟩, rfl⟩ F2 N2)
  · exact Int.fmod_nonneg_of_pos _ hb
  · exact Int.fmod_lt_of_pos _ hb
end
noncomputable def TapeL (tp cl : Addr) (pre post : Led) (k : Int) (n : Led) : Prop := ∃ o t, n = pre ++ (tp, o) :: post ∧ IsL o #[.ref cl, .int k t]
noncomputable abbrev tA (dp un : Nat) (gd : Option (List Code)) (L : Addr) (outer : List Env) : Around := ktrTop dp un gd (Str.ofString "_law_take") scF34 L 1084 (Value.ref 1083) [] outer
noncomputable abbrev tE (L : Addr) : Env := envX "_law_take" scF34 L 1084 (.ref 1083) []
noncomputable abbrev tAt (dp un : Nat) (gd : Option (List Code)) (g : Heap) (L : Addr) (outer : List Env) (m : Str → Option Value) : At := ⟨tA dp un gd L outer, tE L, g, L, m⟩
theorem intsAre_get {vs : List Value} {xs : List Int} (h : IntsAre vs xs) : ∀ (i : Nat) (v : Value), vs[i]? = some v → ∃ k, IsI k v := by
  induction h with
  | nil => intro i v h; simp at h
  | cons n t _ ih =>
    intro i v h
    cases i with
    | zero => simp at h; subst h; exact ⟨n, t, rfl⟩
    | succ i => exact ih i v (by simpa using h)
theorem take {w : World} {mean : ExcName → Option Value} {mg mb : Str → Option Value} {n pre post : Led} {tp cl : Addr} {oc : Obj} {items : Array Value} {xs : List Int} {k many : Int} {tm : Tok}
    (hn : TapeL tp cl pre post k n) (hin : (cl, oc) ∈ pre ++ post) (hoc : IsL oc items) (hi : IntsAre items.toList xs) (hz : items.size < 2 ^ 40) (hap : ∀ p ∈ pre ++ post, p.1 ≠ tp) (h0 : 0 ≤ k) (h1 : k < 2 ^ 20) (hm : 0 < many) :
    Call w mean mg mb 1084 1 [.ref tp, .int many tm] n (fun r n' => (∃ j, 0 ≤ j ∧ j < many ∧ IsI j r) ∧ TapeL tp cl pre post (k + 1) n') := by
  refine Call.of (fo1084 _) (co1084 _) (binds := [("tape", .ref tp), ("many", .int many tm)]) (by kernel_rfl) ?_
  intro dp un gd outer A₀ base g L s Q E S hd hu ret
  obtain ⟨o, t, rfl, ho⟩ := hn
  have tpn := fun {h : Heap} {m : Str → Option Value} (F : Fr g L h m) (p : Pos) (e : m "tape" = some (.ref tp)) => PV.name (prog := pr) (w := w) (A := tA dp un gd L outer) (cn := "_law_take") (cs := scF34) (a := 1084) (ccd := .ref 1083) (cl := []) (x := "tape") (pos := p) (P := (· = .ref tp)) F e rfl
  have nmI := fun {h : Heap} {m : Str → Option Value} (F : Fr g L h m) (y : Str) (p : Pos) (i : Int) (t : Tok) (e : m y = some (.int i t)) hx hd => PV.nameI (prog := pr) (w := w) (A := tA dp un gd L outer) (cn := "_law_take") (cs := scF34) (a := 1084) (ccd := .ref 1083) (cl := []) (x := y) (pos := p) (i := i) (t := t) F e rfl hx hd
  have itm := fun (m : Str → Option Value) (o' : Obj) (j : Int) (t' : Tok) (c : Int) (kk : Nat) (p1 p2 p3 : Pos) (v : Value) (e : m "tape" = some (.ref tp)) (ho' : IsL o' #[.ref cl, .int j t']) (hc0 : 0 ≤ c) (hc1 : c < 2 ^ 63) (hv : (#[Value.ref cl, .int j t'] : Array Value)[c.toNat]? = some v) =>
    (EV.itemL (w := w) (a := tAt dp un gd g L outer m) (news := pre ++ (tp, o') :: post) (pos := p1) (k := c) (R := fun it n' => it = #[.ref cl, .int j t'] ∧ n' = pre ++ (tp, o') :: post) ((EV.pv (fun h F N => tpn F p2 e)).mono fun v n hv => by obtain ⟨rfl, rfl⟩ := hv; exact ⟨tp, o', _, rfl, List.mem_append_right _ (.head _), ho', rfl, rfl⟩) (fun n => .pv fun h F N => .const c kk p3) hc0 hc1 (fun it n' hr => by obtain ⟨rfl, rfl⟩ := hr; exact ⟨v, hv⟩)).mono
      (R := Same (pre ++ (tp, o') :: post) (· = v)) fun v' n' hr => by obtain ⟨it, ⟨rfl, rfl⟩, hh⟩ := hr; exact ⟨Option.some.inj (hh.symm.trans hv), rfl⟩
  refine st_assignE (a := tAt dp un gd g L outer (fun y => ([("tape", Value.ref tp), ("many", Value.int many tm)] : List (Str × Value)).reverse.lookup y)) (x := "at") rfl rfl S.F S.N (itm _ o k t 1 _ _ _ _ (.int k t) rfl ho (by decide) (by decide) rfl) ?_
  intro v n1 h1 tk1 hv F1 N1
  obtain ⟨rfl, rfl⟩ := hv
  generalize hm1 : (fun y : Str => if y = "at" then some (Value.int k t) else ([("tape", Value.ref tp), ("many", Value.int many tm)] : List (Str × Value)).reverse.lookup y) = m1 at F1
  have e1 : m1 "tape" = some (.ref tp) := by rw [← hm1]; rfl
  have e2 : m1 "at" = some (.int k t) := by rw [← hm1]; rfl
  have e3 : m1 "many" = some (.int many tm) := by rw [← hm1]; rfl
  refine wpAny_execs_cons (wpAny_Assign_Subscript ((PV.add (a := k) (b := 1) (nmI F1 "at" _ k t e2 rfl (by decide)) (.const 1 _ _)).use fun v tk2 hv => ?_))
  obtain ⟨u, rfl⟩ := hv
  refine (tpn F1 _ e1).use (s := { s with heap := h1, toks := tk2 }) fun v tk3 hv => ?_
  subst hv
  refine wpAny_Constant_int ?_
  have hmt := N1 (tp, o) (List.mem_append_right _ (.head _))
  refine wpAny_setItem_list (items := #[.ref cl, .int k t]) ⟨o, hmt.1, ho⟩ (by decide) (by decide) (show (1 : Int) < 2 by decide) fun h2 hl2 hs2 => ?_
  obtain ⟨o2, ho2, hl2⟩ := hl2
  have F2 : Fr g L h2 m1 := F1.change hs2 hmt.2.1 hmt.2.2
  have N2 : News g L h2 (pre ++ (tp, o2) :: post) := News.setAt N1 (fun p hp => hap p (List.mem_append_left _ hp)) (fun p hp => hap p (List.mem_append_right _ hp)) hs2 ho2
  have ho' : IsL o2 #[.ref cl, .int (k + 1) u] := hl2
  have hin' : (cl, oc) ∈ pre ++ (tp, o2) :: post := by
    rcases List.mem_append.mp hin with h | h
    · exact List.mem_append_left _ h
    · exact List.mem_append_right _ (.tail _ h)
  let n2 := pre ++ (tp, o2) :: post
  have cells : ∀ (c : Int) (kk : Nat) (p1 p2 p3 : Pos), c = 0 → EV w (tAt dp un gd g L outer m1) n2 (.Subscript (.Name "tape" p2) (.Constant (.int c) kk p3) p1) (ListV fun it n' => it = items ∧ n' = n2) := fun c kk p1 p2 p3 hc => by
    subst hc
    exact (itm m1 o2 (k + 1) u 0 kk p1 p2 p3 (.ref cl) e1 ho' (by decide) (by decide) rfl).mono fun v n hv => by
      obtain ⟨rfl, rfl⟩ := hv
      exact ⟨cl, oc, items, rfl, hin', hoc, rfl, rfl⟩
  refine st_ifE (a := tAt dp un gd g L outer m1) (news := n2) (b := decide (k < (items.size : Int))) rfl F2 N2 (.ltI (.pv fun h F N => nmI F "at" _ k t e2 rfl (by decide)) ((EV.len (cn := "_law_take") (cs := scF34) (L := L) (f0 := 1084) (ccd := .ref 1083) (cl := []) (R := fun it n' => it = items ∧ n' = n2) rfl rfl S.X S.T (cells 0 _ _ _ _ rfl) (fun it n' hr => by rw [hr.1]; exact hz)).mono fun v n hv => by obtain ⟨it, ⟨rfl, rfl⟩, hv⟩ := hv; exact ⟨hv, rfl⟩)) ?_
  intro h3 tk4 F3 N3
  have fin : ∀ v n' h' tk', ((∃ j, 0 ≤ j ∧ j < many ∧ IsI j v) ∧ n' = n2) → Fr g L h' m1 → News g L h' n' → Q (.ret v) { s with heap := h', toks := tk' } := fun v n' h' tk' hp F' N' => ret _ v _ _ _ _ ⟨hp.1, o2, u, hp.2, ho'⟩ (.inl rfl) F' N'
  cases hb : decide (k < (items.size : Int)) with
  | true =>
    rw [if_pos rfl]
    refine st_returnE (a := tAt dp un gd g L outer m1) (news := n2) rfl F3 N3 (.modX ((EV.abs (cn := "_law_take") (cs := scF34) (L := L) (f0 := 1084) (ccd := .ref 1083) (cl := []) (P := fun _ => True) (n0 := n2) rfl rfl S.X S.T ((EV.itemL (k := k) (R := fun it n' => it = items ∧ n' = n2) (cells 0 _ _ _ _ rfl) (fun n => .pv fun h F N => nmI F "at" _ k t e2 rfl (by decide)) h0 (by omega) (fun it n' hr => ?_)).mono fun v n hv => ?_)).mono fun v n hv => by obtain ⟨⟨i, -, hv⟩, rfl⟩ := hv; exact ⟨⟨_, hv⟩, rfl⟩) (.pv fun h F N => nmI F "many" _ many tm e3 rfl (by decide)) hm) fin
    · obtain ⟨rfl, rfl⟩ := hr
      have : k.toNat < it.size := by have := of_decide_eq_true hb; omega
      exact ⟨it[k.toNat], by simp [this]⟩
    · obtain ⟨it, ⟨rfl, rfl⟩, hv⟩ := hv
      obtain ⟨j, hj⟩ := intsAre_get hi k.toNat v (by simpa using hv)
      exact ⟨⟨j, trivial, hj⟩, rfl⟩
  | false =>
    rw [if_neg (by decide)]
    refine nextStep ?_
    refine st_returnE (a := tAt dp un gd g L outer m1) (news := n2) rfl F3 N3 (.modX ((EV.pv (P := fun v => ∃ i, IsI i v) fun h F N => ?_)) (.pv fun h F N => nmI F "many" _ many tm e3 rfl (by decide)) hm) fin
    have kI := fun p => nmI F "at" p k t e2 rfl (by decide)
    exact (PV.add (.add (.mul (.const 5 _ _) (kI _) (.of_left (by decide))) (.div (.mul (kI _) (kI _) (.of_left (intBits_le_64 (by omega) (by omega)))) (.const 3 _ _) (by decide) (by rfl))) (.const 2 _ _)).mono fun v hv => ⟨_, hv⟩
noncomputable def IsO (o : Option Str) : Value → Prop := match o with
  | none => (· = .none)
  | some s => IsS s
theorem isO_flat (h0 : Heap) {o : Option Str} {v : Value} {d : PyData} (hd : d = match o with | none => PyData.none | some s => .str s) (h : Flat v d) : IsO o v := by
  have h1 := h h0
  cases o with
  | none => subst hd; cases h1; rfl
  | some s => subst hd; cases h1; exact ⟨_, rfl⟩
inductive TKs : List (Option Expr) → List Expr → List (Int × Int × Str) → Prop
  | nil : TKs [] [] []
  | cons {i j : Int} {s : Str} {k1 k2 k3 k4 : Nat} {p1 p2 p3 p4 : Pos} {ks : List (Option Expr)} {vs : List Expr} {ps : List (Int × Int × Str)} : TKs ks vs ps →
    TKs (some (.Tuple [.Constant (.int i) k1 p1, .Constant (.int j) k2 p2] k3 p3) :: ks) (.Constant (.str s) k4 p4 :: vs) ((i, j, s) :: ps)
noncomputable def tps (ps : List (Int × Int × Str)) : List (PyData × PyData) := ps.map fun p => (encTuple PyData.int [p.1, p.2.1], .str p.2.2)
section
variable {w : World} {a : At}
theorem tks_pairs {ks : List (Option Expr)} {vs : List Expr} {ps : List (Int × Int × Str)} (x : TKs ks vs ps) : ∀ (news : Led) (s : Shared) (Q : List (Value × Value) → Shared → Prop) (E : Value → Shared → Prop) (pos : Pos), Fr a.g a.L s.heap a.m → News a.g a.L s.heap news →
    (∀ r n' h' tk, KeysIn (intKind pr w) PyData.int n' r (tps ps) → (∀ p ∈ news, p ∈ n') → Fr a.g a.L h' a.m → News a.g a.L h' n' → Q r { s with heap := h', toks := tk }) → wpAny (model pr w) a.A (evalPairs (pairTrees ks vs a.env pos)) Q E s := by
  induction x with
  | nil => exact fun news s Q E pos F N q => evalPairs_nil (q [] news s.heap s.toks .nil (fun p hp => hp) F N)
  | cons _ ih =>
    intro news s Q E pos F N q
    refine evalPairs_cons (Tuple_ (spliced_more (wpAny_Constant_int ?_)))
    refine spliced_more (wpAny_Constant_int ?_)
    refine spliced_none ?_
    refine newTuple_N (s := { s with toks := s.toks + 1 + 1 }) F N (fun h1 F1 N1 => ?_) (show 2 ≤ sizeLine by decide)
    refine wpAny_bind (wpAny_Constant_str (wpAny_bind (wpAny_standAt (wpAny_pure ?_))))
    refine ih _ _ _ _ pos F1 N1 fun r n' h' tk hk hs F' N' => ?_
    exact q _ n' h' tk (.cons (hs _ (.head _)) (TupKeyObj.made (.cons (intKind_is _ _ _ _) (.cons (intKind_is _ _ _ _) .nil))) (.str _ _) hk) (fun p hp => hs p (.tail _ hp)) F' N'
theorem TKs.shape {ks : List (Option Expr)} {vs : List Expr} {ps : List (Int × Int × Str)} (x : TKs ks vs ps) : ks.all (·.isSome) = true ∧ ks.length = vs.length ∧ ks.length = ps.length ∧ (ps ≠ [] → tupFirst ks = true) := by
  induction x with
  | nil => exact ⟨rfl, rfl, rfl, fun h => absurd rfl h⟩
  | cons _ ih => exact ⟨by simpa using ih.1, by simpa using ih.2.1, by simpa using ih.2.2.1, fun _ => rfl⟩
theorem EV.getT {news : Led} {e d0 : Expr} {ks : List (Option Expr)} {vs : List Expr} {ps : List (Int × Int × Str)} {x y : Expr} {kk : Nat} {apos pos tpos dpos : Pos} {i j : Int} {pl : Sem Bool} (he : e = .Call (.Attribute d0 "get" apos) [.Tuple [x, y] kk tpos] [] pos) (hd0 : d0 = .Dict ks vs dpos) (tk : TKs ks vs ps) (nl : a.g.NoLimit)
    (px : ∀ h, Fr a.g a.L h a.m → PV pr w a.A a.env h x (IsI i)) (py : ∀ h, Fr a.g a.L h a.m → PV pr w a.A a.env h y (IsI j)) (hu : a.A.units + 1 < cLine) (hne : ps ≠ []) (hlen : ps.length ≤ 15)
    (hx : starEach [x, y] a.env = (false, eval x a.env) :: starEach [y] a.env) (hy : starEach [y] a.env = (false, eval y a.env) :: starEach [] a.env)
    (hc : eval (.Call (.Attribute d0 "get" apos) [.Tuple [x, y] kk tpos] [] pos) a.env = (do
      let ov ← eval d0 a.env
      standAt apos.atName
      let (f, first) ← holding [ov] (getMethod ov "get" pl)
      callWith pos f first (backTo pos (starEach [.Tuple [x, y] kk tpos] a.env)) (backToKw pos (keywordEach [] a.env)))) :
    EV w a news e (fun v n => Flat v ((PySem.Spec.lookup (encTuple PyData.int [i, j]) (putAllT (tps ps) [])).getD .none) ∧ ∀ p ∈ news, p ∈ n) := by
  subst he hd0
  obtain ⟨s1, s2, s3, s4⟩ := tk.shape
  intro s Q E F N q
  refine methodCall_KW (pl := pl) ?_ hc
  refine Dict_tup_made (s4 hne) F N (modules_low nl) s1 s2 (fun z => hne (by rw [z] at s3; exact List.eq_nil_of_length_eq_zero s3.symm)) (by omega) fun o F1 N1 lo ho => ?_
  refine tks_pairs tk _ _ _ _ _ F1 N1 fun r n' h' tk' hk hs F2 N2 => ?_
  refine TupStores.intro (knd := intKind pr w) (enc := PyData.int) (news := n') PyProof.V.same_int (Nat.lt_of_succ_lt hu) F2 N2 (TupTab.ofEmpty (hs _ (.head _)) lo ho) hk (fun h3 n3 tk3 F3 N3 T3 keep3 => ?_) (by rw [tps, List.length_map]; exact Nat.le_trans hlen (by decide))
  refine getMethod_tupTab_get (s := { s with heap := h3, toks := tk3 }) N3 T3 ?_
  show wpAny _ _ (callWith pos (.builtin "dict.get") [.ref _] (backTo pos (starEach [_] _)) []) _ _ _
  refine callWith_method1 (spliced_more (Tuple_ (spliced_more ((px _ F3).use (s := { s with heap := h3, toks := tk3 }) fun u tk4 hu4 => ?_) hx)))
  obtain ⟨t1, rfl⟩ := hu4
  refine spliced_more ((py _ F3).use (s := { s with heap := h3, toks := tk4 }) fun u tk5 hu5 => ?_) hy
  obtain ⟨t2, rfl⟩ := hu5
  refine spliced_none ?_
  refine newTuple_N (s := { s with heap := h3, toks := tk5 }) F3 N3 (fun h6 F6 N6 => ?_) (show 2 ≤ sizeLine by decide)
  refine spliced_none ?_
  refine call_get1_tupTab (s := { s with heap := h6, toks := tk5 }) (knd := intKind pr w) (enc := PyData.int) (ks := [i, j]) PyProof.V.same_int hu N6 (T3.cons _) (.head _) (TupKeyObj.made (.cons (intKind_is _ _ _ _) (.cons (intKind_is _ _ _ _) .nil))) fun v hv => ?_
  exact q v _ h6 _ ⟨hv, fun p hp => .tail _ (keep3 p (hs p (.tail _ hp)) (Nat.ne_of_lt (Heap.lt_size (N p hp).1)))⟩ F6 N6
end
section
variable {w : World} {a : At} {news : Led}
theorem TE.and2 {x y : Expr} {pos : Pos} {b c : Bool} (X : TE w a news x b) (Y : b = true → TE w a news y c) : TE w a news (.BoolOp .And [x, y] pos) (b && c) := fun s Q E F N q => by
  refine isTrue_and (X s _ _ F N fun h1 tk F1 N1 => ?_)
  cases b with
  | false => exact q h1 tk F1 N1
  | true =>
    refine isTrue_and (Y rfl _ _ _ F1 N1 fun h2 tk' F2 N2 => ?_)
    cases c with
    | false => exact q h2 tk' F2 N2
    | true => exact isTrue_and_nil (q h2 tk' F2 N2)
theorem TV.and4 {A : Around} {env : Env} {h : Heap} {x y z u : Expr} {pos : Pos} {b c d e : Bool} (X : TV pr w A env h x b) (Y : TV pr w A env h y c) (Z : TV pr w A env h z d) (U : TV pr w A env h u e) : TV pr w A env h (.BoolOp .And [x, y, z, u] pos) (b && (c && (d && e))) := fun s Q E hs q => by
  refine isTrue_and (X s _ _ hs fun tk => ?_)
  cases b with
  | false => exact q tk
  | true =>
    refine isTrue_and (Y _ _ _ hs fun tk => ?_)
    cases c with
    | false => exact q tk
    | true =>
      refine isTrue_and (Z _ _ _ hs fun tk => ?_)
      cases d with
      | false => exact q tk
      | true =>
        refine isTrue_and (U _ _ _ hs fun tk => ?_)
        cases e with
        | false => exact q tk
        | true => exact isTrue_and_nil (q tk)
theorem intsAre_of {vs : List Value} {cs : List Cst} (h : AreC vs cs) : ∀ ns : List Int, cs = ns.map Cst.i → IntsAre vs ns := by
  induction h with
  | nil => intro ns e; cases ns with
    | nil => exact .nil
    | cons _ _ => cases e
  | cons hv _ ih =>
    intro ns e
    cases ns with
    | nil => cases e
    | cons n ns =>
      cases e
      obtain ⟨t, rfl⟩ := hv
      exact .cons n t (ih ns rfl)
theorem TE.inListI {l r : Expr} {elts : List Expr} {lp pos : Pos} {k : Int} {ns : List Int} (x : EV w a news l (Same news (IsI k))) (y : IsCs elts (ns.map Cst.i)) (hl : ns.length ≤ 100) (hr : r = .List elts lp)
    (hm : behindInMarks .In (.List elts lp) = false := by with_unfolding_all rfl) : TE w a news (.Compare l [.In] [r] pos) (ns.any (· == k)) := by
  subst hr
  intro s Q E F N q
  refine wpAny_isTrue_Compare1 (x s _ _ F N fun v n h1 tk hv F1 N1 => ?_) hm
  obtain ⟨⟨t, rfl⟩, rfl⟩ := hv
  refine EV.use F1 N1 (EV.listC rfl y (by rw [List.length_map]; exact hl)) fun v n' h2 tk' hv F2 N2 => ?_
  obtain ⟨ll, vs, rfl, hv, rfl, -⟩ := hv
  exact in_list_ints (News.isList N2 (.head _)) (intsAre_of hv ns rfl) (wpAny_truthy_bool (q h2 tk' F2 (News.sub N2 fun p hp => .tail _ hp)))
theorem EV.itemLV {e v sl : Expr} {pos : Pos} {k : Int} {R : Array Value → Led → Prop} (he : e = .Subscript v sl pos) (x : ∀ v', v' = v → EV w a news v' (ListV R)) (y : ∀ n, EV w a n sl (Same n (IsI k))) (h0 : 0 ≤ k) (h1 : k < 2 ^ 63) (hx : ∀ items n, R items n → ∃ v, items[k.toNat]? = some v)
    (hs' : ∀ l t, subscripted sl false (.ref l) (.int k t) = operate [.ref l, .int k t] (getItem (.ref l) (.int k t)) := by intro _ _; with_unfolding_all rfl) :
    EV w a news e (fun v n => ∃ items, R items n ∧ items[k.toNat]? = some v) := by
  subst he
  exact EV.itemL (x v rfl) y h0 h1 hx hs'
theorem EV.getI1V {e o f : Expr} {apos pos : Pos} {k : Int} {R : List (Int × Value) → Led → Prop} (he : e = .Call (.Attribute o "get" apos) [f] [] pos) (x : ∀ o', o' = o → EV w a news o' (DictI w R)) (y : ∀ n, EV w a n f (Same n (IsI k)))
    (hbase : attributeBase o "get" a.env (eval o a.env) = eval o a.env) (hline : (apos.endLine == pos.line) = true) (htrees : backTo pos (starEach [f] a.env) = [(false, eval f a.env)]) :
    EV w a news e (fun v n => ∃ kvs, R kvs n ∧ v = (valueAt kvs k).getD .none) := by
  subst he
  exact EV.getI1 (x o rfl) y hbase hline htrees
end
theorem list_at {vs : List Value} {ss : List Str} (h : AreC vs (ss.map Cst.s)) {k : Int} (h0 : 0 ≤ k) (h1 : k.toNat < ss.length) : ∃ v, vs.toArray[k.toNat]? = some v ∧ IsO ss[k.toNat]? v := by
  obtain ⟨v, hv, hc⟩ := h.get k.toNat (.s ss[k.toNat]) (by simp [h1])
  exact ⟨v, by simpa using hv, by rw [List.getElem?_eq_getElem h1]; exact hc⟩
noncomputable def rNames : List Str := ["add", "sll", "slt", "sltu", "xor", "srl", "or", "and"]
noncomputable def mNames : List Str := ["mul", "mulh", "mulhsu", "mulhu", "div", "divu", "rem", "remu"]
noncomputable def byHigh (opc third high rd : Int) : Option Str :=
  if (opc == 4) && ([1, 5] : List Int).any (· == third) then
    (if third = 1 ∧ high = 0 then some "slli" else if third = 5 ∧ high = 0 then some "srli" else if third = 5 ∧ high = 32 then some "srai" else none)
  else if (opc == 12) && (high == 0) then rNames[third.toNat]?
  else if (opc == 12) && (high == 1) then mNames[third.toNat]?
  else if (opc == 12) && (high == 32) then (if third = 0 then some "sub" else if third = 5 then some "sra" else none)
  else if (opc == 28) && ((third == 0) && ((high == 9) && (rd == 0))) then some "sfence.vma" else none
theorem tup_at (i j : Int) : ((PySem.Spec.lookup (encTuple PyData.int [i, j]) (putAllT (tps [(1, 0, "slli"), (5, 0, "srli"), (5, 32, "srai")]) [])).getD .none) =
    match (if i = 1 ∧ j = 0 then some ("slli" : Str) else if i = 5 ∧ j = 0 then some "srli" else if i = 5 ∧ j = 32 then some "srai" else none) with | none => PyData.none | some s => .str s := by
  have e1 : putAllT (tps [(1, 0, "slli"), (5, 0, "srli"), (5, 32, "srai")]) [] = tps [(1, 0, "slli"), (5, 0, "srli"), (5, 32, "srai")] := by
    simp [tps, putAllT, putD, same_encTuple PyProof.V.same_int]
  rw [e1]
  simp only [tps, List.map_cons, List.map_nil, PySem.Spec.lookup, same_encTuple PyProof.V.same_int, List.cons.injEq, and_true, decide_eq_true_eq]
  by_cases a1 : i = 1 ∧ j = 0
  · rw [if_pos (show (1 : Int) = i ∧ (0 : Int) = j from ⟨a1.1.symm, a1.2.symm⟩), if_pos a1]; rfl
  rw [if_neg (fun z : (1 : Int) = i ∧ (0 : Int) = j => a1 ⟨z.1.symm, z.2.symm⟩), if_neg a1]
  by_cases a2 : i = 5 ∧ j = 0
  · rw [if_pos (show (5 : Int) = i ∧ (0 : Int) = j from ⟨a2.1.symm, a2.2.symm⟩), if_pos a2]; rfl
  rw [if_neg (fun z : (5 : Int) = i ∧ (0 : Int) = j => a2 ⟨z.1.symm, z.2.symm⟩), if_neg a2]
  by_cases a3 : i = 5 ∧ j = 32
  · rw [if_pos (show (5 : Int) = i ∧ (32 : Int) = j from ⟨a3.1.symm, a3.2.symm⟩), if_pos a3]; rfl
  rw [if_neg (fun z : (5 : Int) = i ∧ (32 : Int) = j => a3 ⟨z.1.symm, z.2.symm⟩), if_neg a3]; rfl
noncomputable abbrev bA (dp un : Nat) (gd : Option (List Code)) (L : Addr) (outer : List Env) : Around := ktrTop dp un gd (Str.ofString "_law_by_high") scF37 L 1101 (Value.ref 1100) [] outer
noncomputable abbrev bE (L : Addr) : Env := envX "_law_by_high" scF37 L 1101 (.ref 1100) []
noncomputable abbrev bAt (dp un : Nat) (gd : Option (List Code)) (g : Heap) (L : Addr) (outer : List Env) (m : Str → Option Value) : At := ⟨bA dp un gd L outer, bE L, g, L, m⟩
theorem byH {w : World} {mean : ExcName → Option Value} {mg mb : Str → Option Value} {news : Led} {opc third high rd : Int} {t1 t2 t3 t4 : Tok} (h0 : 0 ≤ third) (h8 : third < 8) :
    Call w mean mg mb 1101 1 [.int opc t1, .int third t2, .int high t3, .int rd t4] news (fun r n => IsO (byHigh opc third high rd) r ∧ n = news) := by
  refine Call.of (fo1101 _) (co1101 _) (binds := [("opcode", .int opc t1), ("third", .int third t2), ("high", .int high t3), ("rd", .int rd t4)]) (by kernel_rfl) ?_
  intro dp un gd outer A₀ base g L s Q E S hd hu ret
  generalize hm : (fun y => ([("opcode", Value.int opc t1), ("third", .int third t2), ("high", .int high t3), ("rd", .int rd t4)] : List (Str × Value)).reverse.lookup y) = m at S
  have e1 : m "opcode" = some (.int opc t1) := by rw [← hm]; rfl
  have e2 : m "third" = some (.int third t2) := by rw [← hm]; rfl
  have e3 : m "high" = some (.int high t3) := by rw [← hm]; rfl
  have e4 : m "rd" = some (.int rd t4) := by rw [← hm]; rfl
  have nmI := fun {h : Heap} (F : Fr g L h m) (y : Str) (p : Pos) (i : Int) (t : Tok) (e : m y = some (.int i t)) hx hd => PV.nameI (prog := pr) (w := w) (A := bA dp un gd L outer) (cn := "_law_by_high") (cs := scF37) (a := 1101) (ccd := .ref 1100) (cl := []) (x := y) (pos := p) (i := i) (t := t) F e rfl hx hd
  have fin : ∀ r, r = byHigh opc third high rd → ∀ v n' h' tk', IsO r v → (∀ p ∈ news, p ∈ n') → Fr g L h' m → News g L h' n' → Q (.ret v) { s with heap := h', toks := tk' } := fun r hr v n' h' tk' hv hs F' N' => ret _ v _ news _ _ ⟨hr ▸ hv, rfl⟩ (.inl rfl) F' (News.sub N' hs)
  obtain ⟨bd, hbd⟩ : ∃ bd, bd = bdF37 := ⟨_, rfl⟩
  rw [← hbd]
  refine st_ifV (a := bAt dp un gd g L outer m) (b := (opc == 4) && ([1, 5] : List Int).any (· == third)) rfl (hbd.trans rfl) S.F S.N (fun e' he => he ▸ .and2 (.tv fun h F N => .eqI (nmI F "opcode" _ opc t1 e1 rfl (by decide)) (.const 4 _ _)) fun _ => .inListI (.pv fun h F N => nmI F "third" _ third t2 e2 rfl (by decide)) (.cons (.i _ _ _) (.cons (.i _ _ _) .nil)) (by decide) rfl) ?_ ?_
  · intro hb h1 tk1 bd1 hb1 F1 N1
    refine st_returnV (a := bAt dp un gd g L outer m) rfl hb1 F1 N1 (fun e' he => EV.getT (ps := [(1, 0, "slli"), (5, 0, "srli"), (5, 32, "srai")]) (pl := _) he rfl (.cons (.cons (.cons .nil))) S.T.nolimit (fun h F => nmI F "third" _ third t2 e2 rfl (by decide)) (fun h F => nmI F "high" _ high t3 e3 rfl (by decide)) (by show un + 1 < cLine; simp only [cLine]; omega) (by simp) (by decide) (by rfl) (by rfl) (by rfl)) fun v n' h' tk' hv F' N' => ?_
    refine fin _ ?_ v n' h' tk' (isO_flat h' (tup_at third high) hv.1) hv.2 F' N'
    unfold byHigh
    rw [hb, if_pos rfl]
  intro hb1 h1 tk1 bd1 hbd1 F1 N1
  refine st_ifV (s := { s with heap := h1, toks := tk1 }) (a := bAt dp un gd g L outer m) (b := (opc == 12) && (high == 0)) rfl hbd1 F1 N1 (fun e' he => he ▸ .tv fun h F N => .and2 (.eqI (nmI F "opcode" _ opc t1 e1 rfl (by decide)) (.const 12 _ _)) fun _ => .eqI (nmI F "high" _ high t3 e3 rfl (by decide)) (.const 0 _ _)) ?_ ?_
  · intro hb2 h2 tk2 bd2 hbd2 F2 N2
    refine st_returnV (s := { s with heap := h2, toks := tk2 }) (a := bAt dp un gd g L outer m) rfl hbd2 F2 N2 (fun e' he => EV.itemLV (k := third) (R := fun it n => (∃ vs, it = vs.toArray ∧ AreC vs (rNames.map Cst.s)) ∧ ∀ p ∈ news, p ∈ n) he (fun v' hv => (EV.listC hv (.cons (.s _ _ _) (.cons (.s _ _ _) (.cons (.s _ _ _) (.cons (.s _ _ _) (.cons (.s _ _ _) (.cons (.s _ _ _) (.cons (.s _ _ _) (.cons (.s _ _ _) .nil)))))))) (by decide)).mono fun v n hv => ?_) (fun n => .pv fun h F N => nmI F "third" _ third t2 e2 rfl (by decide)) h0 (by omega) (fun it n hr => ?_)) fun v n' h' tk' hv F' N' => ?_
    · obtain ⟨l, vs, rfl, ha, rfl, -⟩ := hv
      exact ⟨l, _, _, rfl, .head _, isL_new _ _, ⟨vs, rfl, ha⟩, fun p hp => .tail _ hp⟩
    · obtain ⟨⟨vs, rfl, ha⟩, -⟩ := hr
      obtain ⟨v, hv, -⟩ := list_at ha h0 (show third.toNat < 8 by omega)
      exact ⟨v, hv⟩
    · obtain ⟨it, ⟨⟨vs, rfl, ha⟩, hs⟩, hv⟩ := hv
      obtain ⟨v', hv', ho⟩ := list_at ha h0 (show third.toNat < 8 by omega)
      rw [hv'] at hv
      cases hv
      refine fin _ ?_ v n' h' tk' ho hs F' N'
      unfold byHigh
      rw [hb1, if_neg (by decide), hb2, if_pos rfl]
  intro hb2 h2 tk2 bd2 hbd2 F2 N2
  refine st_ifV (s := { s with heap := h2, toks := tk2 }) (a := bAt dp un gd g L outer m) (b := (opc == 12) && (high == 1)) rfl hbd2 F2 N2 (fun e' he => he ▸ .tv fun h F N => .and2 (.eqI (nmI F "opcode" _ opc t1 e1 rfl (by decide)) (.const 12 _ _)) fun _ => .eqI (nmI F "high" _ high t3 e3 rfl (by decide)) (.const 1 _ _)) ?_ ?_
  · intro hb3 h3 tk3 bd3 hbd3 F3 N3
    refine st_returnV (s := { s with heap := h3, toks := tk3 }) (a := bAt dp un gd g L outer m) rfl hbd3 F3 N3 (fun e' he => EV.itemLV (k := third) (R := fun it n => (∃ vs, it = vs.toArray ∧ AreC vs (mNames.map Cst.s)) ∧ ∀ p ∈ news, p ∈ n) he (fun v' hv => (EV.listC hv (.cons (.s _ _ _) (.cons (.s _ _ _) (.cons (.s _ _ _) (.cons (.s _ _ _) (.cons (.s _ _ _) (.cons (.s _ _ _) (.cons (.s _ _ _) (.cons (.s _ _ _) .nil)))))))) (by decide)).mono fun v n hv => ?_) (fun n => .pv fun h F N => nmI F "third" _ third t2 e2 rfl (by decide)) h0 (by omega) (fun it n hr => ?_)) fun v n' h' tk' hv F' N' => ?_
    · obtain ⟨l, vs, rfl, ha, rfl, -⟩ := hv
      exact ⟨l, _, _, rfl, .head _, isL_new _ _, ⟨vs, rfl, ha⟩, fun p hp => .tail _ hp⟩
    · obtain ⟨⟨vs, rfl, ha⟩, -⟩ := hr
      obtain ⟨v, hv, -⟩ := list_at ha h0 (show third.toNat < 8 by omega)
      exact ⟨v, hv⟩
    · obtain ⟨it, ⟨⟨vs, rfl, ha⟩, hs⟩, hv⟩ := hv
      obtain ⟨v', hv', ho⟩ := list_at ha h0 (show third.toNat < 8 by omega)
      rw [hv'] at hv
      cases hv
      refine fin _ ?_ v n' h' tk' ho hs F' N'
      unfold byHigh
      rw [hb1, if_neg (by decide), hb2, if_neg (by decide), hb3, if_pos rfl]
  intro hb3 h3 tk3 bd3 hbd3 F3 N3
  refine st_ifV (s := { s with heap := h3, toks := tk3 }) (a := bAt dp un gd g L outer m) (b := (opc == 12) && (high == 32)) rfl hbd3 F3 N3 (fun e' he => he ▸ .tv fun h F N => .and2 (.eqI (nmI F "opcode" _ opc t1 e1 rfl (by decide)) (.const 12 _ _)) fun _ => .eqI (nmI F "high" _ high t3 e3 rfl (by decide)) (.const 32 _ _)) ?_ ?_
  · intro hb4 h4 tk4 bd4 hbd4 F4 N4
    refine st_returnV (s := { s with heap := h4, toks := tk4 }) (a := bAt dp un gd g L outer m) rfl hbd4 F4 N4 (fun e' he => EV.getI1V (k := third) (R := fun kvs n => (∃ r, kvs = intKeyPairs r ∧ AreD r [(0, IsS "sub"), (5, IsS "sra")]) ∧ ∀ p ∈ news, p ∈ n) he (fun o' ho => (EV.dictD (R := fun e P => ∃ x, IsC e (.s x) ∧ P = IsS x) (ps := [(0, IsS "sub"), (5, IsS "sra")]) ho S.T.nolimit (.cons ⟨_, .s _ _ _, rfl⟩ (.cons ⟨_, .s _ _ _, rfl⟩ .nil)) (fun h v P F hR => by obtain ⟨x, hx, rfl⟩ := hR; exact .cst hx) (show ([0, 5] : List Int).Nodup by decide) (by simp) (by simp)).mono fun v n hv => ?_) (fun n => .pv fun h F N => nmI F "third" _ third t2 e2 rfl (by decide)) (by rfl) (by rfl) (by rfl)) fun v n' h' tk' hv F' N' => ?_
    · obtain ⟨d, od, r, rfl, rfl, hr, hod, lo⟩ := hv
      exact ⟨d, od, _, rfl, .head _, hod, lo, ⟨r, rfl, hr⟩, fun p hp => .tail _ hp⟩
    · obtain ⟨kvs, ⟨⟨r, rfl, hr⟩, hs⟩, rfl⟩ := hv
      refine fin _ rfl _ n' h' tk' ?_ hs F' N'
      unfold byHigh
      rw [hb1, if_neg (by decide), hb2, if_neg (by decide), hb3, if_neg (by decide), hb4, if_pos rfl]
      have key := hr.at third
      by_cases a0 : third = 0
      · subst a0
        obtain ⟨v, hv, hp⟩ := key
        rw [hv]; exact hp
      by_cases a1 : third = 5
      · subst a1
        obtain ⟨v, hv, hp⟩ := key
        rw [hv]; exact hp
      · have z0 : (third == 0) = false := by simpa using a0
        have z1 : (third == 5) = false := by simpa using a1
        simp only [List.lookup_cons, z0, z1, List.lookup_nil] at key
        rw [key, if_neg a0, if_neg a1]
        exact rfl
  intro hb4 h4 tk4 bd4 hbd4 F4 N4
  refine st_returnV (s := { s with heap := h4, toks := tk4 }) (a := bAt dp un gd g L outer m) (P := Same news (IsO (byHigh opc third high rd))) rfl hbd4 F4 N4 (fun e' he => he ▸ .pv fun h F N => .ite (b := (opc == 28) && ((third == 0) && ((high == 9) && (rd == 0)))) (.and4 (.eqI (nmI F "opcode" _ opc t1 e1 rfl (by decide)) (.const 28 _ _)) (.eqI (nmI F "third" _ third t2 e2 rfl (by decide)) (.const 0 _ _)) (.eqI (nmI F "high" _ high t3 e3 rfl (by decide)) (.const 9 _ _)) (.eqI (nmI F "rd" _ rd t4 e4 rfl (by decide)) (.const 0 _ _))) (fun hb => (PV.constS _ _ _).mono fun v hv => ?_) (fun hb => (PV.constN _ _).mono fun v hv => ?_)) fun v n' h' tk' hv F' N' => ?_
  · unfold byHigh
    rw [hb1, if_neg (by decide), hb2, if_neg (by decide), hb3, if_neg (by decide), hb4, if_neg (by decide), hb, if_pos rfl]
    exact hv
  · unfold byHigh
    rw [hb1, if_neg (by decide), hb2, if_neg (by decide), hb3, if_neg (by decide), hb4, if_neg (by decide), hb, if_neg (by decide)]
    exact hv
  · obtain ⟨hv, rfl⟩ := hv
    exact fin _ rfl v n' h' tk' hv (fun p hp => hp) F' N'
theorem PV.pow {w : World} {A : Around} {env : Env} {h : Heap} {l r : Expr} {pos : Pos} {a : Int} {n : Nat} (x : PV pr w A env h l (IsI a)) (y : PV pr w A env h r (IsI n)) (hn : n ≤ 1000000) (ha : a.natAbs < 2 ^ 64) : PV pr w A env h (.BinOp l .Pow r pos) (IsI (a ^ n)) :=
  .bin x y fun s t u Q E q => pow_int_small (n := (n : Int)) (Int.natCast_nonneg n) (by omega) ha (by simpa using q _ _)
section
variable {w : World} {a : At} {news : Led}
theorem EVs.consV {e : Expr} {es : List Expr} {v0 : Value} {R : List Value → Led → Prop} (x : EV w a news e (Same news (· = v0))) (y : EVs w a news es fun vs n' => R (v0 :: vs) n')
    (he : starEach (e :: es) a.env = (false, eval e a.env) :: starEach es a.env := by rfl) : EVs w a news (e :: es) R := .cons x (fun v n h => by obtain ⟨rfl, rfl⟩ := h; exact y) he
theorem EV.mulL {l r : Expr} {pos : Pos} {n : Nat} {R : List Value → Led → Prop} (x : EV w a news l (fun v n => ∃ l vs n1, v = .ref l ∧ R vs n1 ∧ n = (l, ⟨.type "list", none, .seq vs.toArray 0, #[]⟩) :: n1)) (y : ∀ n', EV w a n' r (Same n' (IsI n))) (hR : ∀ vs n1, R vs n1 → vs.length = 1) (hn : n ≤ 100) :
    EV w a news (.BinOp l .Mult r pos) (fun v n' => ∃ l vs n1 o, v = .ref l ∧ R vs n1 ∧ n' = (l, o) :: n1 ∧ IsL o (List.replicate n (vs.toArray.getD 0 .none)).toArray) := by
  intro s Q E F N q
  refine wpAny_BinOp (x s _ _ F N fun v n' h1 tk hv F1 N1 => ?_)
  obtain ⟨l, vs, n1, rfl, hv, rfl⟩ := hv
  refine y _ _ _ _ F1 N1 fun v n2 h2 tk' hv2 F2 N2 => ?_
  obtain ⟨⟨t, rfl⟩, rfl⟩ := hv2
  have hlen := hR vs n1 hv
  obtain ⟨v0, rfl⟩ : ∃ v0, vs = [v0] := by
    match vs, hlen with
    | [v0], _ => exact ⟨v0, rfl⟩
  refine mul_list (s := { s with heap := h2, toks := tk' }) F2 N2 (N2.get (.head _)) (by omega) (by omega) (by show 1 * (n : Int).toNat ≤ _; simp; omega) fun h3 F3 N3 => ?_
  have key : ∀ (k : Nat) (acc : Array Value), List.foldl (fun x1 x2 => x1 ++ x2) acc (List.replicate k #[v0]) = acc ++ (List.replicate k v0).toArray := by
    intro k
    induction k with
    | zero => intro acc; simp
    | succ k ih => intro acc; rw [List.replicate_succ, List.foldl_cons, ih, List.replicate_succ]; apply Array.ext'; simp
  have e : List.foldl (fun x1 x2 => x1 ++ x2) #[] (List.replicate (if (#[v0] : Array Value).isEmpty = true then 0 else (n : Int).toNat) #[v0]) = (List.replicate n v0).toArray := by
    rw [if_neg (by simp), key]
    simp
  have N3' := N3
  rw [show ([v0] : List Value).toArray = #[v0] from rfl] at N3'
  rw [e] at N3'
  refine q _ _ h3 tk' ⟨_, [v0], n1, _, rfl, hv, rfl, isL_new _ 0⟩ F3 (News.sub N3' fun p hp => by
    rcases List.mem_cons.mp hp with rfl | hp
    · exact .head _
    · exact .tail _ (.tail _ hp))
end
noncomputable def rowsT : List (Int × List (Option Str)) :=
  [(0, [some "lb", some "lh", some "lw", none, some "lbu", some "lhu", none, none]), (3, [some "fence", some "fence.i", none, none, none, none, none, none]), (4, [some "addi", none, some "slti", some "sltiu", some "xori", none, some "ori", some "andi"]),
   (8, [some "sb", some "sh", some "sw", none, none, none, none, none]), (24, [some "beq", some "bne", none, none, some "blt", some "bge", some "bltu", some "bgeu"]), (25, [some "jalr", none, none, none, none, none, none, none]),
   (28, [none, some "csrrw", some "csrrs", some "csrrc", none, some "csrrwi", some "csrrsi", some "csrrci"]),
   (5, List.replicate 8 (some "auipc")), (13, List.replicate 8 (some "lui")), (27, List.replicate 8 (some "jal"))]
noncomputable def RowAt (n : Led) (v : Value) (xs : List (Option Str)) : Prop := ∃ l lo items, v = .ref l ∧ (l, lo) ∈ n ∧ IsL lo items ∧ ∀ i, i < 8 → ∃ u, items[i]? = some u ∧ IsO (xs[i]?.getD none) u
noncomputable def RowsAt (w : World) (n : Led) (r : Addr) : Prop := ∃ od kvs, (r, od) ∈ n ∧ od.IsDictOf (intKind pr w) kvs ∧ (r == sysModules) = false ∧ ∀ k, match rowsT.lookup k with | none => valueAt kvs k = none | some xs => ∃ v, valueAt kvs k = some v ∧ RowAt n v xs
noncomputable def aloneT : List (Int × Str) := [(115, "ecall"), (1048691, "ebreak"), (270532723, "sret"), (807403635, "mret"), (273678451, "wfi")]
noncomputable def nameOf (x : Int) : Option Str :=
  if (x.fmod 4 != 3) || (aloneT.lookup x).isSome then aloneT.lookup x
  else match (((rowsT.lookup ((x.fdiv 4).fmod 32)).getD (List.replicate 8 none))[((x.fdiv 4096).fmod 8).toNat]?).getD none with
    | some s => some s
    | none => byHigh ((x.fdiv 4).fmod 32) ((x.fdiv 4096).fmod 8) (x.fdiv (2 ^ 25)) ((x.fdiv 128).fmod 32)
noncomputable abbrev nA (dp un : Nat) (gd : Option (List Code)) (L : Addr) (outer : List Env) : Around := ktrTop dp un gd (Str.ofString "_law_name_of") scF38 L 1108 (Value.ref 1107) [] outer
noncomputable abbrev nE (L : Addr) : Env := envX "_law_name_of" scF38 L 1108 (.ref 1107) []
noncomputable abbrev nAt (dp un : Nat) (gd : Option (List Code)) (g : Heap) (L : Addr) (outer : List Env) (m : Str → Option Value) : At := ⟨nA dp un gd L outer, nE L, g, L, m⟩
theorem alone_at {r : List (Value × Value)} (hr : AreD r (aloneT.map fun (p : Int × Str) => (p.1, IsS p.2))) (x : Int) : (valueAt (intKeyPairs r) x).isSome = (aloneT.lookup x).isSome ∧ IsO (aloneT.lookup x) ((valueAt (intKeyPairs r) x).getD .none) := by
  have key := hr.at x
  have e : (aloneT.map fun (p : Int × Str) => (p.1, IsS p.2)).lookup x = (aloneT.lookup x).map IsS := by
    generalize aloneT = l
    induction l with
    | nil => rfl
    | cons p l ih =>
      obtain ⟨i, b⟩ := p
      simp only [List.map_cons, List.lookup_cons]
      cases x == i <;> simp [ih]
  rw [e] at key
  cases h : aloneT.lookup x with
  | none => rw [h] at key; simp only [Option.map_none] at key; rw [key]; exact ⟨rfl, rfl⟩
  | some s =>
    rw [h] at key
    simp only [Option.map_some] at key
    obtain ⟨v, hv, hp⟩ := key
    rw [hv]; exact ⟨rfl, hp⟩
theorem nameC {w : World} {mean : ExcName → Option Value} {mg mb : Str → Option Value} {news : Led} {x : Int} {r : Addr} {t : Tok} (hr : RowsAt w news r) (h0 : 0 ≤ x) (h1 : x < 2 ^ 40) :
    Call w mean mg mb 1108 2 [.int x t, .ref r] news (fun v n => IsO (nameOf x) v ∧ n = news) := by
  refine Call.of (fo1108 _) (co1108 _) (binds := [("whole", .int x t), ("rows", .ref r)]) (by kernel_rfl) ?_
  intro dp un gd outer A₀ base g L s Q E S hd hu ret
  generalize hm : (fun y => ([("whole", Value.int x t), ("rows", .ref r)] : List (Str × Value)).reverse.lookup y) = m at S
  have e1 : m "whole" = some (.int x t) := by rw [← hm]; rfl
  have e2 : m "rows" = some (.ref r) := by rw [← hm]; rfl
  have nmI := fun {h : Heap} {m : Str → Option Value} (F : Fr g L h m) (y : Str) (p : Pos) (i : Int) (t : Tok) (e : m y = some (.int i t)) hx hd => PV.nameI (prog := pr) (w := w) (A := nA dp un gd L outer) (cn := "_law_name_of") (cs := scF38) (a := 1108) (ccd := .ref 1107) (cl := []) (x := y) (pos := p) (i := i) (t := t) F e rfl hx hd
  have nmV := fun {h : Heap} {m : Str → Option Value} (F : Fr g L h m) (y : Str) (p : Pos) (v : Value) (e : m y = some v) hx hd => PV.name (prog := pr) (w := w) (A := nA dp un gd L outer) (cn := "_law_name_of") (cs := scF38) (a := 1108) (ccd := .ref 1107) (cl := []) (x := y) (pos := p) (P := (· = v)) F e rfl rfl hx hd
  obtain ⟨bd, hbd⟩ : ∃ bd, bd = bdF38 := ⟨_, rfl⟩
  rw [← hbd]
  refine st_assignV (a := nAt dp un gd g L outer m) (x := "alone") rfl rfl (hbd.trans rfl) S.F S.N (fun e' he => EV.dictD (R := fun e P => ∃ x, IsC e (.s x) ∧ P = IsS x) (ps := aloneT.map fun (p : Int × Str) => (p.1, IsS p.2)) he S.T.nolimit (.cons ⟨_, .s _ _ _, rfl⟩ (.cons ⟨_, .s _ _ _, rfl⟩ (.cons ⟨_, .s _ _ _, rfl⟩ (.cons ⟨_, .s _ _ _, rfl⟩ (.cons ⟨_, .s _ _ _, rfl⟩ .nil))))) (fun h v P F hR => by obtain ⟨x, hx, rfl⟩ := hR; exact .cst hx) (show ([115, 1048691, 270532723, 807403635, 273678451] : List Int).Nodup by decide) (by simp [aloneT]) (by simp [aloneT])) ?_
  intro v n1 h1 tk1 bd1 hb1 hv F1 N1
  obtain ⟨d, od, al, rfl, rfl, hal, hod, lo⟩ := hv
  generalize hm1 : (fun y : Str => if y = "alone" then some (Value.ref d) else m y) = m1 at F1
  have f1 : m1 "whole" = some (.int x t) := by rw [← hm1]; exact e1
  have f2 : m1 "rows" = some (.ref r) := by rw [← hm1]; exact e2
  have f3 : m1 "alone" = some (.ref d) := by rw [← hm1]; rfl
  have fin : ∀ v n' h' tk' m', IsO (nameOf x) v → (∀ p ∈ news, p ∈ n') → Fr g L h' m' → News g L h' n' → Q (.ret v) { s with heap := h', toks := tk' } := fun v n' h' tk' m' hv hs F' N' => ret _ v _ news _ _ ⟨hv, rfl⟩ (.inl rfl) F' (News.sub N' hs)
  obtain ⟨ha1, ha2⟩ := alone_at hal x
  subst hb1
  refine st_ifE (s := { s with heap := h1, toks := tk1 }) (a := nAt dp un gd g L outer m1) (news := (d, od) :: news) (b := (x.fmod 4 != 3) || (valueAt (intKeyPairs al) x).isSome) rfl F1 N1 (.tv fun h F N => .or2 (.neI (.mod (nmI F "whole" _ x t f1 rfl (by decide)) (.const 4 _ _) (by decide)) (.const 3 _ _)) fun _ => .inInt (nmI F "whole" _ x t f1 rfl (by decide)) (nmV F "alone" _ _ f3 rfl (by decide)) lo (kda_dict (s := { s with heap := h }) N (.head _) hod).mapOf) ?_
  intro h2 tk2 F2 N2
  cases hb : (x.fmod 4 != 3) || (valueAt (intKeyPairs al) x).isSome with
  | true =>
    rw [if_pos rfl]
    refine st_returnE (s := { s with heap := h2, toks := tk2 }) (a := nAt dp un gd g L outer m1) (news := (d, od) :: news) rfl F2 N2 (EV.getI1 (R := fun kvs n => kvs = intKeyPairs al ∧ n = (d, od) :: news) ((EV.pv fun h F N => nmV F "alone" _ _ f3 rfl (by decide)).mono fun v n hv => by obtain ⟨rfl, rfl⟩ := hv; exact ⟨d, od, _, rfl, .head _, hod, lo, rfl, rfl⟩) (fun n => .pv fun h F N => nmI F "whole" _ x t f1 rfl (by decide))) fun v n' h' tk' hv F' N' => ?_
    obtain ⟨kvs, ⟨rfl, rfl⟩, rfl⟩ := hv
    refine fin _ _ h' tk' _ ?_ (fun p hp => .tail _ hp) F' N'
    unfold nameOf
    rw [← ha1, hb, if_pos rfl]
    exact ha2
  | false =>
  rw [if_neg (by decide)]
  refine nextStep ?_
  let n1 : Led := (d, od) :: news
  have opP := fun {h : Heap} (F : Fr g L h m1) (p1 p2 p3 p4 p5 : Pos) (k1 k2 : Nat) (a b : Int) (ha : a ≠ 0) (hb : b ≠ 0) (hp : Builtin.divisionGoesByPylong x a = false) => PV.mod (w := w) (A := nA dp un gd L outer) (env := nE L) (pos := p5) (.div (pos := p3) (nmI F "whole" p1 x t f1 rfl (by decide)) (.const a k1 p2) ha hp) (.const b k2 p4) hb
  refine wpAny_execs_cons (Assign_Tuple (Tuple_ ?_))
  have pl : ∀ a : Int, a.natAbs.log2 < 60 → Builtin.divisionGoesByPylong x a = false := fun a ha => by
    unfold Builtin.divisionGoesByPylong
    have : ¬ ((if (a == 0) = true then 0 else a.natAbs.log2 / 30 + 1) > 300) := by split <;> omega
    simp only [decide_eq_false this, Bool.false_and]
  refine spliced_more (PV.use (s := { s with heap := h2, toks := tk2 }) (opP F2 _ _ _ _ _ _ _ 4 32 (by decide) (by decide) (pl 4 (by decide))) fun v tk3 hv => ?_)
  obtain ⟨u1, rfl⟩ := hv
  refine spliced_more (PV.use (s := { s with heap := h2, toks := tk3 }) (opP F2 _ _ _ _ _ _ _ 128 32 (by decide) (by decide) (pl 128 (by decide))) fun v tk4 hv => ?_)
  obtain ⟨u2, rfl⟩ := hv
  refine spliced_more (PV.use (s := { s with heap := h2, toks := tk4 }) (opP F2 _ _ _ _ _ _ _ 4096 8 (by decide) (by decide) (pl 4096 (by decide))) fun v tk5 hv => ?_)
  obtain ⟨u3, rfl⟩ := hv
  refine spliced_more (PV.use (s := { s with heap := h2, toks := tk5 }) (PV.div (nmI F2 "whole" _ x t f1 rfl (by decide)) (.pow (a := 2) (n := 25) (.const 2 _ _) (.const 25 _ _) (by decide) (by decide)) (by decide) (pl _ (by decide))) fun v tk6 hv => ?_)
  obtain ⟨u4, rfl⟩ := hv
  refine spliced_none ?_
  refine newTuple_N (s := { s with heap := h2, toks := tk6 }) F2 N2 fun h3 F3 N3 => ?_
  refine unpackN_ (s := { s with heap := h3, toks := tk6 }) F3 N3 (News.isTup N3 (.head _)) rfl rfl rfl fun h4 F4 N4 => ?_
  refine assignInOrder_cons (assign_Name (storeX_L F4 N4 fun h5 F5 N5 => ?_))
  refine assignInOrder_cons (assign_Name (storeX_L F5 N5 fun h6 F6 N6 => ?_))
  refine assignInOrder_cons (assign_Name (storeX_L F6 N6 fun h7 F7 N7 => ?_))
  refine assignInOrder_cons (assign_Name (storeX_L F7 N7 fun h8 F8 N8 => ?_))
  refine assignInOrder_nil ?_
  have N8' : News g L h8 news := News.sub N8 fun p hp => .tail _ (.tail _ hp)
  generalize ho : (x.fdiv 4).fmod 32 = opc at *
  generalize hrd : (x.fdiv 128).fmod 32 = rd at *
  have t0 : 0 ≤ (x.fdiv 4096).fmod 8 := Int.fmod_nonneg_of_pos _ (by decide)
  have t8 : (x.fdiv 4096).fmod 8 < 8 := Int.fmod_lt_of_pos _ (by decide)
  generalize hth : (x.fdiv 4096).fmod 8 = third at *
  have hhi : x.fdiv (2 ^ 25) = x.fdiv ((2 : Int) ^ 25) := rfl
  generalize hh : x.fdiv ((2 : Int) ^ 25) = high at *
  have nmo : nameOf x = match (((rowsT.lookup opc).getD (List.replicate 8 none))[third.toNat]?).getD none with | some s => some s | none => byHigh opc third high rd := by
    unfold nameOf
    rw [← ha1, hb, if_neg (by decide), ho, hrd, hth, show x.fdiv (2 ^ 25) = high from hh]
  generalize hm8 : (fun y : Str => if y = "high" then some (Value.int high u4) else (fun y : Str => if y = "third" then some (Value.int third u3) else (fun y : Str => if y = "rd" then some (Value.int rd u2) else (fun y : Str => if y = "opcode" then some (Value.int opc u1) else m1 y) y) y) y) = m8 at F8
  have g1 : m8 "opcode" = some (.int opc u1) := by rw [← hm8]; rfl
  have g2 : m8 "rd" = some (.int rd u2) := by rw [← hm8]; rfl
  have g3 : m8 "third" = some (.int third u3) := by rw [← hm8]; rfl
  have g4 : m8 "high" = some (.int high u4) := by rw [← hm8]; rfl
  have g5 : m8 "rows" = some (.ref r) := by rw [← hm8]; exact f2
  obtain ⟨rod, kvs, hrm, hrd', rlo, hrows⟩ := hr
  generalize hrow : (rowsT.lookup opc).getD (List.replicate 8 none) = row at nmo
  refine st_assignE (a := nAt dp un gd g L outer m8) (x := "name") (P := fun v n => IsO (row[third.toNat]?.getD none) v ∧ ∀ p ∈ news, p ∈ n) rfl rfl F8 N8' ?_ ?_
  · refine EV.mono (EV.itemL (k := third) (R := fun it n => (∀ i, i < 8 → ∃ u, it[i]? = some u ∧ IsO (row[i]?.getD none) u) ∧ ∀ p ∈ news, p ∈ n) ?_ (fun n => .pv fun h F N => nmI F "third" _ third u3 g3 rfl (by decide)) t0 (by omega) (fun it n hr => ?_)) fun v n hv => ?_
    · refine EV.mono (EV.getI2 (k := opc) (R := fun kvs' n => kvs' = kvs ∧ n = news) (Pd := fun v n n' => RowAt n' v (List.replicate 8 none) ∧ ∀ p ∈ n, p ∈ n') ?_ (fun n => .pv fun h F N => nmI F "opcode" _ opc u1 g1 rfl (by decide)) (fun n => ?_) (fun v n n' hp => hp.2)) fun v n hv => ?_
      · exact (EV.pv fun h F N => nmV F "rows" _ _ g5 rfl (by decide)).mono fun v n hv => by obtain ⟨rfl, rfl⟩ := hv; exact ⟨r, rod, _, rfl, hrm, hrd', rlo, rfl, rfl⟩
      · refine (EV.mulL (n := 8) (R := fun vs n1 => AreC vs [.no] ∧ n1 = n) ((EV.listC rfl (.cons (.no _ _) .nil) (by decide)).mono fun v n' hv => ?_) (fun n' => .pv fun h F N => .const 8 _ _) (fun vs n1 hv => hv.1.length) (by decide)).mono fun v n' hv => ?_
        · obtain ⟨l, vs, rfl, hv, rfl, -⟩ := hv
          exact ⟨l, vs, n, rfl, ⟨hv, rfl⟩, rfl⟩
        · obtain ⟨l, vs, n1, o, rfl, ⟨hv, rfl⟩, rfl, hL⟩ := hv
          refine ⟨⟨l, o, _, rfl, .head _, hL, fun i hi => ⟨.none, ?_, ?_⟩⟩, fun p hp => .tail _ hp⟩
          · cases hv with
            | cons hv h2 => cases h2; have : _ = Value.none := hv; subst this; rw [List.getElem?_toArray, List.getElem?_replicate, if_pos hi]; rfl
          · rw [List.getElem?_replicate, if_pos hi]; rfl
      · obtain ⟨kvs', n1, dv, ⟨rfl, rfl⟩, ⟨hdv, hs⟩, rfl⟩ := hv
        have key := hrows opc
        cases hlk : rowsT.lookup opc with
        | none =>
          rw [hlk] at key hrow
          simp only at key
          rw [key]
          obtain ⟨l, lo', items, rfl, hm', hL, hit⟩ := hdv
          exact ⟨l, lo', items, rfl, hm', hL, by rw [← hrow]; exact hit, hs⟩
        | some xs =>
          rw [hlk] at key hrow
          obtain ⟨v, hv, l, lo', items, rfl, hm', hL, hit⟩ := key
          rw [hv]
          exact ⟨l, lo', items, rfl, hs _ hm', hL, by rw [← hrow]; exact hit, hs⟩
    · obtain ⟨u, hu', -⟩ := hr.1 third.toNat (by omega)
      exact ⟨u, hu'⟩
    · obtain ⟨it, hit, hv⟩ := hv
      obtain ⟨u, hu', ho'⟩ := hit.1 third.toNat (by omega)
      rw [hu'] at hv
      cases hv
      exact ⟨ho', hit.2⟩
  intro v n9 h9 tk9 hv F9 N9
  obtain ⟨hnm, hs9⟩ := hv
  have N9' : News g L h9 news := News.sub N9 hs9
  have lk := fun {h : Heap} (F : Fr g L h (fun y => if y = "name" then some v else m8 y)) (p : Pos) => nmV F "name" p v rfl rfl (by decide)
  refine st_returnE (s := { s with heap := h9, toks := tk9 }) (a := nAt dp un gd g L outer (fun y => if y = "name" then some v else m8 y)) (news := news) (P := Same news (IsO (nameOf x))) rfl F9 N9' (EV.ite (b := v == .none) (.tv fun h F N => .isNone (lk F _) (.constN _ _)) (fun hb => ?_) (fun hb => ?_)) fun v n' h' tk' hv F' N' => fin v n' h' tk' _ hv.1 (fun p hp => by rw [hv.2]; exact hp) F' N'
  · have hnone : row[third.toNat]?.getD none = none := by
      cases hq : row[third.toNat]?.getD none with
      | none => rfl
      | some s =>
        rw [hq] at hnm
        obtain ⟨t, rfl⟩ := hnm
        cases hb
    rw [hnone] at nmo
    rw [nmo]
    exact EV.call (a := nAt dp un gd g L outer (fun y => if y = "name" then some v else m8 y)) (cn := "_law_name_of") (cs := scF38) (L := L) (f0 := 1108) (ccd := .ref 1107) (cl := []) rfl S.B S.X S.T (f := 1101) (d := 1) (Pa := fun vs n0 => vs = [.int opc u1, .int third u3, .int high u4, .int rd u2] ∧ n0 = news) (by kernel_rfl) (by kernel_rfl)
      (.consV (.pv fun h F N => nmV F "opcode" _ _ g1 rfl (by decide)) (.consV (.pv fun h F N => nmV F "third" _ _ g3 rfl (by decide)) (.consV (.pv fun h F N => nmV F "high" _ _ g4 rfl (by decide)) (.consV (.pv fun h F N => nmV F "rd" _ _ g2 rfl (by decide)) (.nil ⟨rfl, rfl⟩)))))
      (fun vs n0 h => by obtain ⟨rfl, rfl⟩ := h; exact byH t0 t8) (by omega) (by omega)
  · refine .pv fun h F N => (lk F _).mono fun v' hv' => ?_
    subst hv'
    rw [nmo]
    cases hq : row[third.toNat]?.getD none with
    | none => rw [hq] at hnm; have : v' = .none := hnm; rw [this] at hb; cases hb
    | some s => rw [hq] at hnm; exact hnm
end Mine
end
section
open PySem PySem.W PyProof.Rows PySem.Calls PyProof.V PySem.Spec
set_option maxHeartbeats 2000000
namespace Mine
structure Good (x : Int) : Prop where
  bad : badW x = true → nameOf x = none
  ok : badW x = false → ∀ a nm kd o th sv rd rs1 rs2 imm csr, shapeOf x = some a → shT.lookup a = some (nm, kd, o, th, sv) → decF kd x = (rd, rs1, rs2, imm, csr) →
    nameOf x = some nm ∧ tName.lookup nm = some a ∧ encF kd o th sv rd rs1 rs2 imm csr = x ∧ ∃ us rg, kindTab.lookup kd = some (us, rg) ∧ okField us rg "rd" rd = true ∧ okField us rg "rs1" rs1 = true ∧ okField us rg "rs2" rs2 = true ∧ okField us rg "imm" imm = true ∧ okField us rg "csr" csr = true ∧
      rd.natAbs < 2 ^ 40 ∧ rs1.natAbs < 2 ^ 40 ∧ rs2.natAbs < 2 ^ 40 ∧ imm.natAbs < 2 ^ 40 ∧ csr.natAbs < 2 ^ 40
noncomputable def metAfter (kvs : List (Str × Value)) (x : Int) : List (Str × Value) := match nameOf x with
  | none => kvs
  | some nm => stored kvs nm (.bool true)
noncomputable abbrev rA (dp un : Nat) (gd : Option (List Code)) (L : Addr) (env : Env) : Around := ktrTop dp un gd (Str.ofString "_law_word_right") scF39 L 1115 (Value.ref 1114) [] [env]
noncomputable abbrev rE (L : Addr) : Env := envX "_law_word_right" scF39 L 1115 (.ref 1114) []
noncomputable abbrev rAt (dp un : Nat) (gd : Option (List Code)) (g : Heap) (L : Addr) (env : Env) (m : Str → Option Value) : At := ⟨rA dp un gd L env, rE L, g, L, m⟩
noncomputable abbrev exS (l : List Stmt) : Stmt := match l[1]? with | some (Stmt.Try _ [ExceptHandler.ExceptHandler _ _ [s] _] _ _ _) => s | _ => .Pass ⟨0, 0, 0, 0⟩
noncomputable abbrev exNp (l : List Stmt) : Pos := match l[1]? with | some (Stmt.Try _ [ExceptHandler.ExceptHandler (some (Expr.Name _ p)) _ _ _] _ _ _) => p | _ => ⟨0, 0, 0, 0⟩
noncomputable abbrev exPos (l : List Stmt) : Pos := match l[1]? with | some (Stmt.Try _ [ExceptHandler.ExceptHandler _ _ _ p] _ _ _) => p | _ => ⟨0, 0, 0, 0⟩
theorem right {w : World} {mean : ExcName → Option Value} {mg mb : Str → Option Value} {pre post : Led} {md r : Addr} {od : Obj} {kvs : List (Str × Value)} {x : Int} {t : Tok} (G : Good x) (h0 : 0 ≤ x) (h1 : x < 2 ^ 33)
    (hr : RowsAt w (pre ++ post) r) (hod : od.IsDictOf (strKind pr w) kvs) (hlen : kvs.length ≤ 1000) (hap : ∀ p ∈ pre ++ post, p.1 ≠ md) :
    CallS w mean mg mb 1115 7 [.int x t, .ref r, .ref md] (pre ++ (md, od) :: post) (fun v n => v = .bool true ∧ ∃ od', n = pre ++ (md, od') :: post ∧ od'.IsDictOf (strKind pr w) (metAfter kvs x)) := by
  refine CallS.of (fo1115 _) (co1115 _) (binds := [("whole", .int x t), ("rows", .ref r), ("met", .ref md)]) (by kernel_rfl) ?_
  intro dp un gd env A₀ base g L s Q E S XB TB D hA hd hu ret
  refine wpAny_mono (E := fun _ _ => False) (Q := Q) ?_ (fun _ _ z => z) fun _ _ z => z.elim
  let n0 : Led := pre ++ (md, od) :: post
  have hr0 : RowsAt w n0 r := by
    obtain ⟨rod, kv, hm, hd1, lo, hk⟩ := hr
    have up : ∀ p ∈ pre ++ post, p ∈ n0 := fun p hp => by
      rcases List.mem_append.mp hp with h | h
      · exact List.mem_append_left _ h
      · exact List.mem_append_right _ (.tail _ h)
    refine ⟨rod, kv, up _ hm, hd1, lo, fun k => ?_⟩
    have := hk k
    split
    · next e => rw [e] at this; exact this
    · next xs e =>
      rw [e] at this
      obtain ⟨v, hv, l, lo', items, rfl, hm', rest⟩ := this
      exact ⟨_, hv, l, lo', items, rfl, up _ hm', rest⟩
  generalize hm : (fun y => ([("whole", Value.int x t), ("rows", .ref r), ("met", .ref md)] : List (Str × Value)).reverse.lookup y) = m at S
  have e1 : m "whole" = some (.int x t) := by rw [← hm]; rfl
  have e2 : m "rows" = some (.ref r) := by rw [← hm]; rfl
  have e3 : m "met" = some (.ref md) := by rw [← hm]; rfl
  have nmV := fun {h : Heap} {m : Str → Option Value} (A : Around) (F : Fr g L h m) (y : Str) (p : Pos) (v : Value) (e : m y = some v) hx hd => PV.name (prog := pr) (w := w) (A := A) (cn := "_law_word_right") (cs := scF39) (a := 1115) (ccd := .ref 1114) (cl := []) (x := y) (pos := p) (P := (· = v)) F e rfl rfl hx hd
  refine st_assignE (a := rAt dp un gd g L env m) (x := "due") (P := fun v n => IsO (nameOf x) v ∧ n = n0) rfl rfl S.F S.N (EV.call (a := rAt dp un gd g L env m) (cn := "_law_word_right") (cs := scF39) (L := L) (f0 := 1115) (ccd := .ref 1114) (cl := []) rfl S.B S.X S.T (f := 1108) (d := 2) (Pa := fun vs n => vs = [.int x t, .ref r] ∧ n = n0) (by kernel_rfl) (by kernel_rfl)
    (.consV (.pv fun h F N => nmV _ F "whole" _ _ e1 rfl (by decide)) (.consV (.pv fun h F N => nmV _ F "rows" _ _ e2 rfl (by decide)) (.nil ⟨rfl, rfl⟩)))
    (fun vs n0 h => by obtain ⟨rfl, rfl⟩ := h; exact nameC hr0 h0 (by omega)) (by omega) (by omega)) ?_
  intro due n1 h2 tk2 hv F1 N1
  obtain ⟨hdue, rfl⟩ := hv
  generalize hm1 : (fun y : Str => if y = "due" then some due else m y) = m1 at F1
  have f1 : m1 "whole" = some (.int x t) := by rw [← hm1]; exact e1
  have f2 : m1 "due" = some due := by rw [← hm1]; rfl
  have f3 : m1 "met" = some (.ref md) := by rw [← hm1]; exact e3
  refine wpAny_execs_cons (wpAny_Try_except ?_)
  refine wpAny_execs_cons (wpAny_Assign_Name ?_ (by rfl))
  refine wpAny_Call_ofName (nameX_K F1 S.X (topRead_of S.T) (v := .ref 1077) (by kernel_rfl) ?_ rfl rfl (by decide))
  refine callWith_K (h₀ := g) S.X (by kernel_rfl) (spliced_more (nameX_L F1 (v := .int x t) f1 ?_ rfl rfl (by decide)))
  refine spliced_none ⟨S.X.keeps F1.keep, ?_⟩
  refine dec (news := n0) (by omega) dp un gd _ _ _ _ _ _ _ base g L _ _ _ _ ⟨S.B, F1, S.X, N1, S.T⟩ rfl (by omega) (by omega) (fun told n' h' tk' hp F' N' => ?_) (fun e h' tk' gB tt v hz FB U R => ?_)
  · obtain ⟨⟨a, nm, kd, o, th, sv, rd, rs1, rs2, imm, csr, hsh, hrow, hdec, x0, dx, es, rfl, rfl, hfl, hlt, hdx⟩, hbad⟩ := hp
    obtain ⟨hnm, htn, henc, us, rg, hk, o1, o2, o3, o4, o5, b1, b2, b3, b4, b5⟩ := G.ok hbad a nm kd o th sv rd rs1 rs2 imm csr hsh hrow hdec
    refine storeX_L (s := { s with heap := h', toks := tk' }) F' N' (fun h3 F3 N3 => ?_) rfl rfl
    refine nextStep (nextStep ?_)
    generalize hm2 : (fun y : Str => if y = "told" then some (Value.ref x0) else m1 y) = m2 at F3
    have g1 : m2 "whole" = some (.int x t) := by rw [← hm2]; exact f1
    have g2 : m2 "due" = some due := by rw [← hm2]; exact f2
    have g3 : m2 "met" = some (.ref md) := by rw [← hm2]; exact f3
    have g4 : m2 "told" = some (.ref x0) := by rw [← hm2]; rfl
    have I : ∀ od', InsAt ((x0, instObj 98 dx) :: (dx, dictOf es 6) :: (pre ++ (md, od') :: post)) x0 dx es nm rd rs1 rs2 imm csr := fun od' => ⟨.head _, .tail _ (.head _), hfl⟩
    have tnm := fun {h : Heap} {od' : Obj} (F : Fr g L h m2) (N : News g L h ((x0, instObj 98 dx) :: (dx, dictOf es 6) :: (pre ++ (md, od') :: post))) (p q : Pos) => PV.attrS (w := w) (A := rA dp un gd L env) (env := rE L) (x := "told") (attr := "name") (np := p) (pos := q) F S.X (at_ := none) (nmV _ F "told" _ _ g4 rfl (by decide)) ((I od').at N) (by kernel_rfl) (by kernel_rfl) (by kernel_rfl) rfl hfl.name
    refine wpAny_execs_cons (wpAny_Assign_Subscript (wpAny_Constant_bool ?_))
    refine (nmV _ F3 "met" _ _ g3 rfl (by decide)).use fun v tk4 hv => ?_
    subst hv
    refine (tnm (od' := od) F3 N3 _ _).use (s := { s with heap := h3, toks := tk4 }) fun v tk5 hv => ?_
    obtain ⟨tn, rfl⟩ := hv
    have hmd : (md, od) ∈ (x0, instObj 98 dx) :: (dx, dictOf es 6) :: (pre ++ (md, od) :: post) := .tail _ (.tail _ (List.mem_append_right _ (.head _)))
    refine wpAny_setItem_pairs (s := { s with heap := h3, toks := tk5 }) (knd := strKind pr w) (k := nm) (kvs := kvs) (strKind_is pr w nm tn) (kda_dict N3 hmd hod) (fun h4 hd4 hs4 => ?_) (Nat.le_trans hlen (by decide))
    obtain ⟨od', ho4, hod'⟩ := Heap.dictOf_iff.mp hd4
    have F4 : Fr g L h4 m2 := F3.change hs4 (N3 _ hmd).2.1 (N3 _ hmd).2.2
    have ml : md < dx := hlt (md, od) (List.mem_append_right _ (.head _))
    have N4 : News g L h4 ((x0, instObj 98 dx) :: (dx, dictOf es 6) :: (pre ++ (md, od') :: post)) := News.setAt (own := (x0, instObj 98 dx) :: (dx, dictOf es 6) :: pre) N3 (fun p hp => by
      rcases List.mem_cons.mp hp with rfl | hp
      · exact Nat.ne_of_gt (Nat.lt_trans ml hdx)
      · rcases List.mem_cons.mp hp with rfl | hp
        · exact Nat.ne_of_gt ml
        · exact hap p (List.mem_append_left _ hp)) (fun p hp => hap p (List.mem_append_right _ hp)) hs4 ho4
    have fin : ∀ h5 tk, Fr g L h5 m2 → News g L h5 ((x0, instObj 98 dx) :: (dx, dictOf es 6) :: (pre ++ (md, od') :: post)) → Q (.ret (.bool true)) { s with heap := h5, toks := tk } := fun h5 tk F5 N5 =>
      ret (.bool true) g m2 _ h5 tk ⟨rfl, od', rfl, by unfold metAfter; rw [hnm]; exact hod'⟩ .refl F5 (News.sub N5 fun p hp => .tail _ (.tail _ hp))
    rw [hnm] at hdue
    obtain ⟨td, rfl⟩ := hdue
    refine wpAny_execs_cons (wpAny_Return_some (BoolOp_and ?_))
    refine wpAny_Compare1 ((tnm (od' := od') F4 N4 _ _).use (s := { s with heap := h4, toks := tk5 + 1 }) fun v tk6 hv => ?_)
    obtain ⟨tn', rfl⟩ := hv
    refine (nmV _ F4 "due" _ _ g2 rfl (by decide)).use (s := { s with heap := h4, toks := tk6 }) fun v tk7 hv => ?_
    subst hv
    refine eq_str (wpAny_truthy_bool ?_)
    rw [if_pos (by simp)]
    refine BoolOp_one (wpAny_Compare1 ?_)
    refine EV.use (s := { s with heap := h4, toks := tk7 }) (a := rAt dp un gd g L env m2) F4 N4 (EV.call (a := rAt dp un gd g L env m2) (cn := "_law_word_right") (cs := scF39) (L := L) (f0 := 1115) (ccd := .ref 1114) (cl := []) rfl S.B S.X S.T (f := 1049) (d := 3) (Pa := fun vs n => vs = [.ref x0] ∧ n = (x0, instObj 98 dx) :: (dx, dictOf es 6) :: (pre ++ (md, od') :: post)) (by kernel_rfl) (by kernel_rfl)
      (.consV (.pv fun h F N => nmV _ F "told" _ _ g4 rfl (by decide)) (.nil ⟨rfl, rfl⟩)) (fun vs n h => by obtain ⟨rfl, rfl⟩ := h; exact enc (I od') htn hrow hk o1 o2 o3 o4 o5 b1 b2 b3 b4 b5) (by omega) (by omega)) fun v n8 h8 tk8 hv F8 N8 => ?_
    obtain ⟨⟨te, rfl⟩, rfl⟩ := hv
    refine (nmV _ F8 "whole" _ _ g1 rfl (by decide)).use (s := { s with heap := h8, toks := tk8 }) fun v tk9 hv => ?_
    subst hv
    refine eq_int ?_
    rw [henc, show (x == x) = true by simp]
    exact fin h8 tk9 F8 N8
  · have hnone := G.bad hz
    rw [hnone] at hdue
    have hdue' : due = .none := hdue
    subst hdue'
    have key := caught_SO0 (prog := pr) (w := w) (E := fun _ _ => False) (A₀ := A₀) (name := "_law_word_right") (scope := scF39) (a := 1115) (cd := .ref 1114) (KF := K0 w.params) (p := qv) (loose := looseW qv looseL) (mean := mean) (mg := mg) (mb := mb) (x := "BadInstruction") (C := 71) (g₀ := g) (Q := fun f s' => ∃ v, f = .ret v ∧ Q (.ret v) s') R FB S.B U XB TB D .refl (by kernel_rfl) (by kernel_rfl)
      (b₀ := exS bdF39) (suite := []) (np := exNp bdF39) (pos := exPos bdF39) (rest := []) (s' := { s with heap := h', toks := tk' }) ?_ rfl rfl (by decide) PassesOwnAt.never
    · have hA' : A₀.deeper (envOf (Str.ofString "_law_word_right") scF39 L 1115 (.ref 1114)) = rA dp un gd L env := hA
      rw [hA'] at key
      exact wpAny_mono key (fun _ _ h₂ => wpAny_mono h₂ (fun _ _ h₃ => wpAny_mono h₃ (fun f s' hf => by obtain ⟨v, rfl, hq⟩ := hf; exact hq) fun _ _ z => z) fun _ _ z => z) fun _ _ z => z
    · intro h4 g4 news4 T4 F4 N4 got Nl B4 X4 TT4 D4
      refine st_return (P := (· = .bool true)) (.isNoneB (v := .none) (.name (cn := "_law_word_right") (cs := scF39) (L := L) (a := 1115) (ccd := .ref 1114) (cl := []) F4 f2 rfl) (.constN _ _)) fun v tk hv => ?_
      subst hv
      exact ⟨_, rfl, ret (.bool true) g4 m1 _ h4 tk ⟨rfl, od, rfl, by unfold metAfter; rw [hnone]; exact hod⟩ T4 F4 Nl⟩
end Mine
end
section
open PySem PySem.W PyProof.Rows PySem.Calls PyProof.V PySem.Spec PyProof.Rows.LCg
set_option maxHeartbeats 2000000
namespace Mine
theorem off1_mem {D : Addr} : ∀ {l : Led}, Off1 D l → ∀ p ∈ l, p.1 ≠ D
  | [], _, _, h => nomatch h
  | _ :: _, x, p, h => by
    rcases List.mem_cons.mp h with rfl | h
    · exact x.1
    · exact off1_mem x.2 p h
theorem split_call {w : World} {A : Around} {env : Env} {s : Shared} {E : Value → Shared → Prop} {Q : Value → Shared → Prop} {g : Heap} {L : Addr} {m : Str → Option Value} {news : Led} {o : Expr} {apos pos p : Pos} {kk : Nat} {x : Str} (F : Fr g L s.heap m) (N : News g L s.heap news) (pv : PV pr w A env s.heap o (IsS x)) (hx : x.length ≤ 1000)
    (q : ∀ l h' tk, l.map (·.1) = Txt.split x " " → Fr g L h' m → News g L h' ((s.heap.objs.size, ⟨.type "list", none, .seq (strValues l).toArray 0, #[]⟩) :: news) → Q (.ref s.heap.objs.size) { s with heap := h', toks := tk })
    (hbase : attributeBase o "split" env (eval o env) = eval o env := by rfl) (hline : (apos.endLine == pos.line) = true := by rfl) :
    wpAny (model pr w) A (eval (.Call (.Attribute o "split" apos) [.Constant (.str " ") kk p] [] pos) env) Q E s := by
  refine wpAny_Call_method1_late hbase hline (by rfl) (pv.use fun v tk hv => ?_)
  obtain ⟨t, rfl⟩ := hv
  refine ⟨"str", "str.split", PySem.F.plainAttrs_str, PySem.F.slot_str_split, PySem.F.type_str_split, typeIs_str _ _ _, (fun _ e => nomatch e), ?_⟩
  refine PySem.Calls.callWith_builtin rfl (PySem.Calls.evalArgs_plain (PySem.Calls.spliced_cons (wpAny_Constant_str (PySem.Calls.spliced_nil ?_))))
  exact splitN1 (s := { s with toks := tk + 1 }) F N (by decide) (fun l h' k hl F' N' => q l h' k hl F' N') (Nat.le_trans (Nat.add_le_add_right hx 2) (by decide))
inductive AreO : List Value → List (Option Str) → Prop
  | nil : AreO [] []
  | cons {v : Value} {o : Option Str} {vs : List Value} {os : List (Option Str)} : IsO o v → AreO vs os → AreO (v :: vs) (o :: os)
theorem AreO.snoc {vs : List Value} {os : List (Option Str)} {v : Value} {o : Option Str} (x : AreO vs os) (y : IsO o v) : AreO (vs ++ [v]) (os ++ [o]) := by
  induction x with
  | nil => exact .cons y .nil
  | cons h _ ih => exact .cons h ih
theorem AreO.get {vs : List Value} {os : List (Option Str)} (x : AreO vs os) : ∀ i, i < os.length → ∃ v, vs[i]? = some v ∧ IsO (os[i]?.getD none) v := by
  induction x with
  | nil => intro i h; simp at h
  | cons hv _ ih =>
    intro i h
    cases i with
    | zero => exact ⟨_, rfl, hv⟩
    | succ i => simpa using ih i (by simpa using h)
noncomputable def dash (x : Str) : Option Str := if x == "-" then none else some x
theorem PV.compName {w : World} {A : Around} {h : Heap} {scope : Scope} {cl : List (Str × Addr)} {C : Addr} {env : Env} {m₂ : Str → Option Value} {x : Str} {p : Pos} {v : Value} {P : Value → Prop} (ns : h.Ns C m₂) (hv : m₂ x = some v) (hP : P v) (hk : scope.kind = .function) (hx : (compEnvC scope cl C env).kindOf x = some .local) (hd : (x == ("__debug__" : Str)) = false := by decide) :
    PV pr w A (compEnvC scope cl C env) h (.Name x p) P := fun s Q E hs q => by
  subst hs
  exact wpAny_Name (wpAny_loadName_local (by show (relabel scope env).kind = _; exact hk) hx ns hv (q v s.toks hP)) hd
theorem strValues_get {l : List (Str × Tok)} {i : Nat} {v : Value} (h : (strValues l)[i]? = some v) : ∃ x t, v = .str x t ∧ (l.map (·.1))[i]? = some x := by
  unfold strValues at h
  rw [List.getElem?_map] at h
  cases hq : l[i]? with
  | none => rw [hq] at h; cases h
  | some p =>
    rw [hq] at h
    cases h
    exact ⟨p.1, p.2, rfl, by rw [List.getElem?_map, hq]; rfl⟩
theorem CompEnd.mono {g : Heap} {L : Addr} {m : Str → Option Value} {s₁ : Shared} {I C D : Addr} {oI oC oD : Obj} {S : Led → Prop} {r r' : Value → Led → Prop} {y : Value} {s₂ : Shared} (x : CompEnd g L m s₁ I oI C oC D oD S r y s₂) (f : ∀ y n, r y n → r' y n) : CompEnd g L m s₁ I oI C oC D oD S r' y s₂ := by
  obtain ⟨h', tk, news', a, b, c, d, e, z⟩ := x
  exact ⟨h', tk, news', a, b, c, d, e, f _ _ z⟩
theorem compRest {w : World} {A : Around} {g : Heap} {L : Addr} {m : Str → Option Value} {env : Env} {elt : Expr} {x : Str} {scope : Scope} {cl : List (Str × Addr)} {s : Shared} {S : Led → Prop} {P : Nat → Value → Prop} {Fin : List Value → Led → Prop} (J : Nat → List Value → Led → Prop) (n : Nat)
    (step : ∀ i v ys news I oI C oC D m₂ h tk (E' : Value → Shared → Prop), i < n → P i v → J i ys news → NsObj oC m₂ → m₂ x = some v → Fr g L h m → News g L h ((I, oI) :: (C, oC) :: (D, lst ys) :: news) → Off3 I C D news → ((@Ne Nat I C) ∧ (@Ne Nat I D) ∧ (@Ne Nat C D)) →
      wpAny (model pr w) A (eval elt (compEnvC scope cl C env)) (CompEnd g L m { s with heap := h, toks := tk } I oI C oC D (lst ys) S (fun y news' => J (i + 1) (ys ++ [y]) news')) E' { s with heap := h, toks := tk })
    (fin : ∀ ys news, J n ys news → Fin ys news) : ∀ k i ys news, i + k = n → J i ys news → CompRest pr w A g L m env elt x scope cl s S P Fin k i ys news
  | 0, i, ys, news, hk, hJ => .zero (fin ys news ((show i = n by omega) ▸ hJ))
  | k + 1, i, ys, news, hk, hJ => .succ fun v I oI C oC D m₂ h tk E' hP hN hx F N off ne =>
    wpAny_mono (step i v ys news I oI C oC D m₂ h tk E' (by omega) hP hJ hN hx F N off ne) (fun y s' hc => CompEnd.mono hc fun y nw hJ' => compRest J n step fin k (i + 1) _ _ (by omega) hJ') fun _ _ z => z
noncomputable abbrev cScope (l : List Stmt) : Scope := match l with | [.Return (some (.ListComp _ _ s _)) _] => s | _ => { kind := .function, names := [], isGenerator := false, isCoroutine := false }
theorem thirds {w : World} {mean : ExcName → Option Value} {mg mb : Str → Option Value} {news : Led} {x : Str} {t : Tok} (hx : x.length ≤ 1000) :
    Call w mean mg mb 1089 1 [.str x t] news (fun v n => ∃ D ys, v = .ref D ∧ n = (D, lst ys) :: news ∧ AreO ys ((Txt.split x " ").map dash) ∧ ∀ p ∈ news, p.1 ≠ D) := by
  refine Call.of (fo1089 _) (co1089 _) (binds := [("text", .str x t)]) (by kernel_rfl) ?_
  intro dp un gd outer A₀ base g L s Q E S hd hu ret
  refine wpAny_execs_cons (wpAny_Return_some ?_)
  refine ListComp_U S.F (cl := []) (by rfl) (by decide) rfl (by decide) (by rfl) ?_
  refine split_call (x := x) S.F S.N (.name (cn := "_law_thirds") (cs := scF35) (L := L) (a := 1089) (ccd := .ref 1088) (cl := []) S.F rfl ⟨t, rfl⟩) hx fun l h1 tk1 hl F1 N1 => ?_
  have hlen : l.length ≤ 1002 := by
    have := split_le x " "
    rw [← hl, List.length_map] at this
    omega
  refine CompSrc.ledger rfl F1 N1 (.head _) (by simp [strValues]; exact Nat.le_trans hlen (by decide)) fun gg => ?_
  have hits : (strValues l).toArray.size = l.length := by simp [strValues]
  refine compRest (fun i ys n => AreO ys (((l.map (·.1)).take i).map dash) ∧ n = (s.heap.objs.size, ⟨.type "list", none, .seq (strValues l).toArray 0, #[]⟩) :: news) l.length (fun i v ys n I oI C oC D m₂ h tk E' hi hP hJ hN hx F N off ne => ?_) (fun ys n hJ => ?_) _ 0 [] _ (by rw [hits]; omega) ⟨.nil, rfl⟩
  · obtain ⟨hJ, rfl⟩ := hJ
    obtain ⟨y, u, rfl, hy⟩ := strValues_get (by simpa using hP)
    have ns := hN.ns (N _ (.tail _ (.head _))).1
    have nm := fun p => PV.compName (w := w) (A := ktrTop dp un gd (Str.ofString "_law_thirds") scF35 L 1089 (Value.ref 1088) [] outer) (scope := cScope bdF35) (cl := []) (env := envX "_law_thirds" scF35 L 1089 (.ref 1088) []) (x := "name") (p := p) (P := IsS y) ns hx ⟨u, rfl⟩ rfl rfl
    refine PV.use (s := { s with heap := h, toks := tk }) (P := IsO (dash y)) (.ite (b := y == "-") (.eqS (nm _) (.constS _ _ _)) (fun hb => (PV.constN _ _).mono fun v hv => ?_) fun hb => (nm _).mono fun v hv => ?_) fun v tk' hv => ?_
    · unfold dash; rw [if_pos hb]; exact hv
    · unfold dash; rw [if_neg (by rw [hb]; decide)]; exact hv
    · refine .intro F N _ (fun p hp => hp) off (.inr ⟨_, .head _, rfl, _, rfl⟩) ⟨?_, rfl⟩
      rw [List.take_add_one, hy, List.map_append]
      exact hJ.snoc hv
  · obtain ⟨hJ, rfl⟩ := hJ
    intro D h tk F N o1
    refine ret _ (.ref D) _ ((D, lst ys) :: news) _ _ ⟨D, ys, rfl, rfl, ?_, fun p hp => off1_mem o1 p (.tail _ hp)⟩ (.inl rfl) F (News.sub N fun p hp => ?_)
    · rw [List.take_of_length_le (by simp), hl] at hJ
      exact hJ
    · rcases List.mem_cons.mp hp with rfl | hp
      · exact .head _
      · exact .tail _ (.tail _ hp)
section
variable {w : World} {A : Around} {env : Env} {s : Shared} {g : Heap} {m : Str → Option Value} {news : Led} {n : Nat}
structure Src (w : World) (A : Around) (g : Heap) (L : Addr) (I : Addr) (fp : List Addr) (n : Nat) (P : Nat → Value → Prop) (h : Heap) : Prop where
  walks : ∃ St, Walks pr w A I fp [I] n P St ∧ St 0 h
  loc : L ∉ fp
  new : g.get? I = none
theorem for_src {Q : Flow → Shared → Prop} {y : Str} {py fpos : Pos} {iter : Expr} {body : List Stmt} {fpx : List Addr} {P : Nat → Value → Prop} (F : Fr g env.locals s.heap m)
    (ev : wpAny (model pr w) A (eval iter env) (fun xv s₁ => wpAny (model pr w) A (pyIter xv) (fun it s₂ => ∃ I h tk, it = .ref I ∧ s₂ = { s with heap := h, toks := tk } ∧ Fr g env.locals h m ∧ News g env.locals h news ∧ Src w A g env.locals I (I :: fpx) n P h ∧ ∀ p ∈ news, p.1 ≠ I) (fun _ _ => False) s₁) (fun _ _ => False) s)
    (J : Nat → (Str → Option Value) → Led → Prop) (h0 : J 0 m news)
    (step : ∀ I i v m₁ n₁ own h tk, i < n → P i v → J i m₁ n₁ → Fr g env.locals h m₁ → News g env.locals h (own ++ n₁) → (∀ p ∈ own, p.1 = I ∨ p.1 ∈ fpx) → (∀ p ∈ n₁, p.1 ≠ I) →
      wpAny (model pr w) A (assign (.Name y py) env v) (fun _ s₂ => wpAny (model pr w) A (execs body env) (fun f s' => f = .next ∧ ∃ h' tk m' n', s' = { s with heap := h', toks := tk } ∧ Fr g env.locals h' m' ∧ News g env.locals h' (own ++ n') ∧ n'.map (·.1) = n₁.map (·.1) ∧ J (i + 1) m' n') (fun _ _ => False) s₂) (fun _ _ => False) { s with heap := h, toks := tk })
    (k : ∀ h' tk m' n', Fr g env.locals h' m' → News g env.locals h' n' → J n m' n' → Q .next { s with heap := h', toks := tk })
    (hs : ∀ x, foldedSetIterable iter env x = pure x := by intro _; rfl) :
    wpAny (model pr w) A (exec (.For (.Name y py) iter body [] fpos) env) Q (fun _ _ => False) s := by
  refine For_turns F ?_ hs PassesOwn.never
  refine wpAny_mono ev (fun xv s₁ h₁ => wpAny_mono h₁ (fun it s₂ h₂ => ?_) fun _ _ z => z) fun _ _ z => z
  obtain ⟨I, h, tk, rfl, rfl, F1, N1, ⟨⟨St, W, hst⟩, hloc, hnew⟩, hoff⟩ := h₂
  refine ⟨I, I :: fpx, [I], n, _, _, St, m, news, J, rfl, KTurns.ofWalks W (fun i v s Q E _ q => wpAny_pure q), hloc, fun b hb => by rw [List.mem_singleton.mp hb]; exact hnew, fun p hp hb => hoff p hp (List.mem_singleton.mp hb), hst, F1, N1, h0, ?_, fun h' tk' m' n' F' N' _ hJ => k h' tk' m' n' F' N' hJ⟩
  rintro i v m₁ news₁ h₁ tk₁ own hi hP hJ hw hown - - - F2 N2
  refine wpAny_mono (step I i v m₁ news₁ own h₁ tk₁ hi hP hJ F2 N2 (fun p hp => by rcases List.mem_cons.mp (hown p hp) with z | z; exact .inl z; exact .inr z) (fun p hp z => hw p hp (List.mem_singleton.mpr z))) (fun _ s₂ h₂ => wpAny_mono h₂ (fun f s' hf => ?_) fun _ _ e => e) fun _ _ e => e
  obtain ⟨rfl, h', tk', m', n', rfl, F3, N3, hmap, hJ3⟩ := hf
  refine .next (.intro F3 N3 (fun p hp => ?_) hJ3)
  have : p.1 ∈ news₁.map (·.1) := hmap ▸ List.mem_map_of_mem hp
  obtain ⟨q, hq, e⟩ := List.mem_map.mp this
  exact e ▸ hw q hq
theorem src_range {h1 : Heap} {tk1 : Tok} {r : Addr} {t u v : Tok} (hh : A.handled = none) (F : Fr g env.locals h1 m) (N : News g env.locals h1 news) (hr : IsRange h1 r 0 n 1 t u v) (hsm : Builtin.Range.small 0 n 1 = true) (hrs : Builtin.Range.rangeSize 0 n 1 = (n : Int)) :
    wpAny (model pr w) A (pyIter (.ref r)) (fun it s₂ => ∃ I h tk, it = .ref I ∧ s₂ = { s with heap := h, toks := tk } ∧ Fr g env.locals h m ∧ News g env.locals h news ∧ Src w A g env.locals I (I :: []) n (fun i v => ∃ t, v = .int (0 + (i : Int)) t) h ∧ ∀ p ∈ news, p.1 ≠ I) (fun _ _ => False) { s with heap := h1, toks := tk1 } := by
  refine wpAny_pyIter_range hr hsm ?_
  have N1 : ∀ o : Obj, News g env.locals (h1.push o) news := fun o p hp => ⟨Heap.get?_push_of_some _ (N p hp).1, (N p hp).2⟩
  exact ⟨h1.objs.size, h1.push { cls := .type "range_iterator", data := .fields #[rawInt 0, rawInt (Builtin.Range.rangeSize 0 n 1), rawInt 1] }, tk1, rfl, rfl, F.push _, N1 _,
    ⟨⟨fun i h => IsRangeIter h h1.objs.size (0 + (i : Nat) * 1) ((n : Int) - (i : Nat)) 1, range_walks hh 0 n, by show IsRangeIter _ _ _ _ _; rw [hrs]; simpa using Heap.get?_push_size _ rfl⟩, fun hb => absurd F.ns.lt (by rw [List.mem_singleton.mp hb]; exact Nat.lt_irrefl _), next_is_new F⟩, fun p hp => Nat.ne_of_lt (Heap.lt_size (N p hp).1)⟩
theorem src_list {h1 : Heap} {tk1 : Tok} {ax : Addr} {its : Array Value} {o : Obj} (hh : A.handled = none) (F : Fr g env.locals h1 m) (N : News g env.locals h1 news) (hm : (ax, o) ∈ news) (hl : IsL o its) :
    wpAny (model pr w) A (pyIter (.ref ax)) (fun it s₂ => ∃ I h tk, it = .ref I ∧ s₂ = { s with heap := h, toks := tk } ∧ Fr g env.locals h m ∧ News g env.locals h news ∧ Src w A g env.locals I (I :: [ax]) its.size (fun i v => its[i]? = some v) h ∧ ∀ p ∈ news, p.1 ≠ I) (fun _ _ => False) { s with heap := h1, toks := tk1 } := by
  have hL : h1.IsList ax its := ⟨o, N.get hm, hl⟩
  have hlt : ax < h1.objs.size := Heap.lt_size (N.get hm)
  refine wpAny_pyIter_list hL ?_
  have N1 : ∀ o : Obj, News g env.locals (h1.push o) news := fun o p hp => ⟨Heap.get?_push_of_some _ (N p hp).1, (N p hp).2⟩
  refine ⟨h1.objs.size, _, tk1, rfl, rfl, F.push _, N1 _, ⟨⟨_, Walks.list hh h1.objs.size ax (Nat.ne_of_lt hlt) its, ⟨⟨_, Heap.get?_push_size _ rfl, rfl, rfl⟩, hL.push _⟩⟩, fun hb => ?_, next_is_new F⟩, fun p hp => Nat.ne_of_lt (Heap.lt_size (N p hp).1)⟩
  rcases List.mem_cons.mp hb with z | hb
  · exact absurd F.ns.lt (by rw [z]; exact Nat.lt_irrefl _)
  · exact (N _ hm).2.1 (List.mem_singleton.mp hb).symm
end
section
variable {w : World} {a : At} {news : Led}
theorem EV.callS {cn : Str} {cs : Scope} {L f0 : Addr} {ccd : Value} {cl : List (Str × Addr)} {mean : ExcName → Option Value} {mg mb : Str → Option Value} {A₀ : Around} {base : Heap} {dp un : Nat} {gd : Option (List Code)}
    {x : Str} {np pos : Pos} {e0 : Expr} {es : List Expr} {f : Addr} {d : Nat} {Pa : List Value → Led → Prop} {P : Value → Led → Prop}
    (ha : a = ⟨ktrTop dp un gd cn cs L f0 ccd cl [], envX cn cs L f0 ccd cl, a.g, L, a.m⟩) (B : Below A₀ base [] a.g) (X : (K0 w.params).In a.g) (T : Top qv (looseW qv looseL) mean mg mb a.g) (XB : (K0 w.params).In base) (TB : Top qv (looseW qv looseL) mean mg mb base)
    (hf : nsIn (K0 w.params) mainGlobals x = some (some (.ref f))) (hkeep : keepIn (K0 w.params) (.ref f) = true)
    (args : EVs w a news (e0 :: es) Pa) (C : ∀ vs n, Pa vs n → CallS w mean mg mb f d vs n P) (hd : dp + d ≤ 900) (hu : un + 20 * d ≤ 9000)
    (hk : cs.kind = .function := by rfl) (hx : (envX cn cs L f0 ccd cl).kindOf x = some .globalImplicit := by rfl) (hdb : (x == ("__debug__" : Str)) = false := by decide)
    (he : starEach (e0 :: es) (envX cn cs L f0 ccd cl) = (false, eval e0 (envX cn cs L f0 ccd cl)) :: starEach es (envX cn cs L f0 ccd cl) := by rfl) (hplain : (backTo pos (starEach es (envX cn cs L f0 ccd cl))).any (·.1) = false := by rfl) :
    EV w a news (.Call (.Name x np) (e0 :: es) [] pos) P := by
  obtain ⟨aA, aenv, ag, aL, am⟩ := a
  obtain ⟨rfl, rfl, -, rfl, -⟩ := At.mk.inj ha
  intro s Q E F N q
  refine wpAny_Call_ofName (nameX_K F X (topRead_of T) hf ?_ hk hx hdb)
  refine callWith_K (h₀ := ag) X hkeep ?_ he hplain
  refine args pos s _ _ F N fun vs n h' tk hp F' N' => ⟨X.keeps F'.keep, ?_⟩
  exact C vs n hp _ _ _ _ _ _ _ _ _ _ _ _ _ _ _ _ ⟨B, F', X, N', T⟩ XB TB hk hd hu fun r n' h'' tk' hr F'' N'' => q r n' h'' tk' hr F'' N''
theorem st_ifNotE {env : Env} {s : Shared} {rest body : List Stmt} {Q : Flow → Shared → Prop} {E : Value → Shared → Prop} {pos p : Pos} {e : Expr} {P : Led → Prop} (henv : a.env = env) (F : Fr a.g a.L s.heap a.m) (N : News a.g a.L s.heap news) (ev : EV w a news e (fun v n => v = .bool true ∧ P n))
    (k : ∀ h n tk, P n → Fr a.g a.L h a.m → News a.g a.L h n → wpAny (model pr w) a.A (execs rest env) Q E { s with heap := h, toks := tk })
    (he : ∀ whole, isTrue e a.env whole = (do let v ← whole; standAt e.pos; holding [v] (truthy v)) := by intro _; rfl) :
    wpAny (model pr w) a.A (execs (.If (.UnaryOp .Not e p) body [] pos :: rest) env) Q E s := by
  subst henv
  refine wpAny_execs_cons (wpAny_If (isTrue_not (isTrue_plain (ev s _ _ F N fun v n h tk hv F1 N1 => ?_) (he _))))
  obtain ⟨rfl, hP⟩ := hv
  refine wpAny_truthy_bool ?_
  exact nextStep (k h n tk hP F1 N1)
theorem EV.nameC {cn : Str} {cs : Scope} {L f : Addr} {ccd : Value} {cl : List (Str × Addr)} {x : Str} {pos : Pos} {v : Value} {c : Addr} {o : Obj} (henv : a.env = envX cn cs L f ccd cl) (hL : a.L = L) (hc : cl.lookup x = some c) (hm : (c, o) ∈ news) (hd : o.data = .cell (some v))
    (hk : cs.kind = .function := by rfl) (hx : (envX cn cs L f ccd cl).kindOf x = some .cell := by rfl) (hb : (x == ("__debug__" : Str)) = false := by decide) : EV w a news (.Name x pos) (Same news (· = v)) := fun s Q E F N q => by
  subst hL
  rw [henv]
  exact nameX_C N hc hm hd (q v news s.heap s.toks ⟨rfl, rfl⟩ F N) hk hx hb
end
noncomputable abbrev lA (dp un : Nat) (gd : Option (List Code)) (L fa : Addr) (cd : Value) : Around := ktrTop dp un gd (Str.ofString "law") scF41 L fa cd [("tape", L + 1)] []
noncomputable abbrev lE (L fa : Addr) (cd : Value) : Env := envX "law" scF41 L fa cd [("tape", L + 1)]
noncomputable abbrev lAt (dp un : Nat) (gd : Option (List Code)) (g : Heap) (L fa : Addr) (cd : Value) (m : Str → Option Value) : At := ⟨lA dp un gd L fa cd, lE L fa cd, g, L, m⟩
noncomputable def metFold (ws : List Int) : List (Str × Value) := ws.foldl metAfter []
theorem stored_len {K : Type} [DecidableEq K] (kvs : List (K × Value)) (k : K) (v : Value) : (stored kvs k v).length ≤ kvs.length + 1 := by
  unfold stored
  split <;> simp
theorem foldl_len : ∀ (ws : List Int) (kvs : List (Str × Value)), (ws.foldl metAfter kvs).length ≤ kvs.length + ws.length := by
  intro ws
  induction ws with
  | nil => intro kvs; simp
  | cons x ws ih =>
    intro kvs
    rw [List.foldl_cons]
    have h1 := ih (metAfter kvs x)
    have h2 : (metAfter kvs x).length ≤ kvs.length + 1 := by
      unfold metAfter
      split
      · omega
      · exact stored_len _ _ _
    simp only [List.length_cons]
    omega
theorem metFold_len (ws : List Int) : (metFold ws).length ≤ ws.length := by
  have h := foldl_len ws []
  simp only [List.length_nil, Nat.zero_add] at h
  exact h
structure LM (sm : Bool) (md r : Addr) (rd hi rest : Int) (t1 t2 t3 : Tok) (m : Str → Option Value) : Prop where
  small : m "small" = some (.bool sm)
  met : m "met" = some (.ref md)
  rows : m "rows" = some (.ref r)
  rd : m "rd" = some (.int rd t1)
  high : m "high" = some (.int hi t2)
  rest : m "rest" = some (.int rest t3)
noncomputable def wordAt (rest : Int) (i : Nat) (t : Int) : Int := rest + 4096 * t + 4 * (i : Int) + 3
noncomputable def allWords (rest : Int) (ths : List Int) (n : Nat) : List Int := (List.range n).flatMap fun i => ths.map (wordAt rest i)
theorem RowsAt.up {w : World} {n n' : Led} {r : Addr} (h : RowsAt w n r) (up : ∀ p ∈ n, p ∈ n') : RowsAt w n' r := by
  obtain ⟨rod, kv, hm, hd1, lo, hk⟩ := h
  refine ⟨rod, kv, up _ hm, hd1, lo, fun k => ?_⟩
  have := hk k
  split
  · next e => rw [e] at this; exact this
  · next xs e =>
    rw [e] at this
    obtain ⟨v, hv, l, lo', items, rfl, hm', rest⟩ := this
    exact ⟨_, hv, l, lo', items, rfl, up _ hm', rest⟩
section
variable {w : World} {mean : ExcName → Option Value} {mg mb : Str → Option Value} {A₀ : Around} {g : Heap} {L fa : Addr} {cd : Value} {m : Str → Option Value} {dp un : Nat} {gd : Option (List Code)} {pre post : Led} {md r : Addr}
theorem l_right {od : Obj} {kvs : List (Str × Value)} {x : Int} {e me : Expr} {p p2 p4 : Pos} (B : Below A₀ g [] g) (X : (K0 w.params).In g) (T : Top qv (looseW qv looseL) mean mg mb g) (hd : dp + 7 ≤ 900) (hu : un + 140 ≤ 9000) (G : Good x) (h0 : 0 ≤ x) (h1 : x < 2 ^ 33)
    (hr : RowsAt w (pre ++ post) r) (hod : od.IsDictOf (strKind pr w) kvs) (hlen : kvs.length ≤ 1000) (hap : ∀ p ∈ pre ++ post, p.1 ≠ md) (hrr : m "rows" = some (.ref r)) {news : Led}
    (ex : EV w (lAt dp un gd g L fa cd m) news e (Same news (IsI x))) (em : EV w (lAt dp un gd g L fa cd m) news me (fun v n => v = .ref md ∧ n = pre ++ (md, od) :: post))
    (h2 : starEach [e, .Name "rows" p2, me] (lE L fa cd) = (false, eval e (lE L fa cd)) :: starEach [.Name "rows" p2, me] (lE L fa cd)) (h3 : starEach [me] (lE L fa cd) = (false, eval me (lE L fa cd)) :: starEach [] (lE L fa cd))
    (h4 : (backTo p4 (starEach [.Name "rows" p2, me] (lE L fa cd))).any (·.1) = false) :
    EV w (lAt dp un gd g L fa cd m) news (.Call (.Name "_law_word_right" p) [e, .Name "rows" p2, me] [] p4) (fun v n => v = .bool true ∧ ∃ od', n = pre ++ (md, od') :: post ∧ od'.IsDictOf (strKind pr w) (metAfter kvs x)) :=
  EV.callS (a := lAt dp un gd g L fa cd m) (cn := "law") (cs := scF41) (L := L) (f0 := fa) (ccd := cd) (cl := [("tape", L + 1)]) rfl B X T X T (f := 1115) (d := 7) (Pa := fun vs n => ∃ t, vs = [.int x t, .ref r, .ref md] ∧ n = pre ++ (md, od) :: post) (by kernel_rfl) (by kernel_rfl)
    (.consI ex (fun t => .consV (.nameL (cn := "law") (cs := scF41) (L := L) (f := fa) (ccd := cd) (cl := [("tape", L + 1)]) rfl rfl hrr rfl rfl rfl (by decide)) (.cons em (fun v n hv => .nil ⟨t, by rw [hv.1], hv.2⟩) h3)) h2)
    (fun vs n h => by obtain ⟨t, rfl, rfl⟩ := h; exact right G h0 h1 hr hod hlen hap) hd (by omega) rfl rfl (by decide) h2 h4
noncomputable abbrev stAt (l : List Stmt) (i : Nat) : Stmt := match l[i]? with | some st => st | none => Stmt.Pass ⟨0, 0, 0, 0⟩
noncomputable abbrev forBody : Stmt → List Stmt
  | .For _ _ b _ _ => b
  | _ => []
noncomputable abbrev tgtPos : Stmt → Pos
  | .For (.Name _ p) _ _ _ _ => p
  | _ => ⟨0, 0, 0, 0⟩
theorem walks_mono {A : Around} {I : Addr} {fp wr : List Addr} {n : Nat} {P P' : Nat → Value → Prop} {St : Nat → Heap → Prop} (W : Walks pr w A I fp wr n P St) (f : ∀ i v, i < n → P i v → P' i v) : Walks pr w A I fp wr n P' St :=
  { sub := W.sub, frame := W.frame, done := W.done, self := W.self, item := fun i s Q E hi st hQ => W.item i s Q E hi st fun v h' tk hP => hQ v h' tk (f i v hi hP) }
theorem src_mono {A : Around} {I : Addr} {fp : List Addr} {n : Nat} {P P' : Nat → Value → Prop} {h : Heap} (x : Src w A g L I fp n P h) (f : ∀ i v, i < n → P i v → P' i v) : Src w A g L I fp n P' h := by
  obtain ⟨⟨St, W, hst⟩, a, b⟩ := x
  exact ⟨⟨St, walks_mono W f, hst⟩, a, b⟩
noncomputable def Thirds (n : Led) (thv : Value) (ths : List Int) : Prop :=
  (∃ ax o its, thv = .ref ax ∧ (ax, o) ∈ n ∧ IsL o its ∧ IntsAre its.toList ths) ∨ (∃ rng t u v, thv = .ref rng ∧ (rng, (⟨.type "range", none, .fields #[.int 0 t, .int (8 : Nat) u, .int 1 v], #[]⟩ : Obj)) ∈ n ∧ ths = [0, 1, 2, 3, 4, 5, 6, 7])
theorem intsAre_at {vs : List Value} {xs : List Int} (h : IntsAre vs xs) : ∀ (i : Nat) (v : Value), vs[i]? = some v → ∃ k, xs[i]? = some k ∧ IsI k v := by
  induction h with
  | nil => intro i v h; simp at h
  | cons n t _ ih =>
    intro i v h
    cases i with
    | zero => simp at h; subst h; exact ⟨n, rfl, t, rfl⟩
    | succ i => exact ih i v (by simpa using h)
theorem l_inner {s : Shared} {Q : Flow → Shared → Prop} {sm : Bool} {rd hi rest : Int} {t1 t2 t3 to : Tok} {ths : List Int} {thv : Value} {od : Obj} {kvs0 : List (Str × Value)} {i : Nat} (B : Below A₀ g [] g) (X : (K0 w.params).In g) (T : Top qv (looseW qv looseL) mean mg mb g) (hd : dp + 7 ≤ 900) (hu : un + 140 ≤ 9000)
    (F : Fr g L s.heap m) (N : News g L s.heap (pre ++ (md, od) :: post)) (hod : od.IsDictOf (strKind pr w) kvs0) (lm : LM sm md r rd hi rest t1 t2 t3 m) (hth : m "thirds" = some thv) (hop : m "opcode" = some (.int i to)) (src : Thirds (pre ++ post) thv ths)
    (hts : ∀ t ∈ ths, 0 ≤ t ∧ t < 8) (hlen : ths.length ≤ 8) (hk0 : kvs0.length ≤ 500) (hG : ∀ t ∈ ths, Good (wordAt rest i t)) (r0 : 0 ≤ rest) (r1 : rest < 2 ^ 32) (hi32 : i < 32) (hap : ∀ p ∈ pre ++ post, p.1 ≠ md) (hr : RowsAt w (pre ++ post) r)
    (k : ∀ h tk m' od', Fr g L h m' → News g L h (pre ++ (md, od') :: post) → od'.IsDictOf (strKind pr w) ((ths.map (wordAt rest i)).foldl metAfter kvs0) → LM sm md r rd hi rest t1 t2 t3 m' → m' "thirds" = some thv → Q .next { s with heap := h, toks := tk }) :
    wpAny (model pr w) (lA dp un gd L fa cd) (exec (stAt (forBody (stAt bdF41 5)) 0) (lE L fa cd)) Q (fun _ _ => False) s := by
  have up : ∀ p ∈ pre ++ post, ∀ od', p ∈ pre ++ (md, od') :: post := fun p hp od' => by
    rcases List.mem_append.mp hp with h | h
    · exact List.mem_append_left _ h
    · exact List.mem_append_right _ (.tail _ h)
  have step : ∀ (fpx : List Addr), (∀ a ∈ fpx, a ≠ md) → ∀ I j v m₁ n₁ own h tk, j < ths.length → (∃ x, ths[j]? = some x ∧ IsI x v) →
      ((LM sm md r rd hi rest t1 t2 t3 m₁ ∧ m₁ "thirds" = some thv ∧ m₁ "opcode" = some (.int i to)) ∧ ∃ od', n₁ = pre ++ (md, od') :: post ∧ od'.IsDictOf (strKind pr w) (((ths.take j).map (wordAt rest i)).foldl metAfter kvs0)) → Fr g L h m₁ → News g L h (own ++ n₁) → (∀ p ∈ own, p.1 = I ∨ p.1 ∈ fpx) → (∀ p ∈ n₁, p.1 ≠ I) →
      wpAny (model pr w) (lA dp un gd L fa cd) (assign (.Name "third" (tgtPos (stAt (forBody (stAt bdF41 5)) 0))) (lE L fa cd) v) (fun _ s₂ => wpAny (model pr w) (lA dp un gd L fa cd) (execs (forBody (stAt (forBody (stAt bdF41 5)) 0)) (lE L fa cd)) (fun f s' => f = .next ∧ ∃ h' tk m' n', s' = { s with heap := h', toks := tk } ∧ Fr g L h' m' ∧ News g L h' (own ++ n') ∧ n'.map (·.1) = n₁.map (·.1) ∧
        ((LM sm md r rd hi rest t1 t2 t3 m' ∧ m' "thirds" = some thv ∧ m' "opcode" = some (.int i to)) ∧ ∃ od', n' = pre ++ (md, od') :: post ∧ od'.IsDictOf (strKind pr w) (((ths.take (j + 1)).map (wordAt rest i)).foldl metAfter kvs0))) (fun _ _ => False) s₂) (fun _ _ => False) { s with heap := h, toks := tk } := by
    rintro fpx hfp I j v m₁ n₁ own h tk hj ⟨x, hx, u, rfl⟩ ⟨⟨lm1, hth1, hop1⟩, od1, rfl, hod1⟩ F1 N1 hown hI
    have hxm : x ∈ ths := List.mem_of_getElem? hx
    obtain ⟨x0, x8⟩ := hts x hxm
    refine assign_Name (storeX_L F1 N1 fun h2 F2 N2 => ?_)
    rw [← List.append_assoc] at N2
    have lm2 : LM sm md r rd hi rest t1 t2 t3 (fun y => if y = "third" then some (.int x u) else m₁ y) := ⟨lm1.small, lm1.met, lm1.rows, lm1.rd, lm1.high, lm1.rest⟩
    generalize hm2 : (fun y : Str => if y = "third" then some (Value.int x u) else m₁ y) = m2 at F2 lm2
    have g1 : m2 "third" = some (.int x u) := by rw [← hm2]; rfl
    have g2 : m2 "opcode" = some (.int i to) := by rw [← hm2]; exact hop1
    have g3 : m2 "thirds" = some thv := by rw [← hm2]; exact hth1
    have hmdI : I ≠ md := fun z => hI (md, od1) (List.mem_append_right _ (.head _)) z.symm
    have hap2 : ∀ p ∈ (own ++ pre) ++ post, p.1 ≠ md := fun p hp => by
      rw [List.append_assoc] at hp
      rcases List.mem_append.mp hp with hp | hp
      · rcases hown p hp with z | z
        · rw [z]; exact hmdI
        · exact hfp _ z
      · exact hap p hp
    have hr2 : RowsAt w ((own ++ pre) ++ post) r := hr.up fun p hp => by rw [List.append_assoc]; exact List.mem_append_right _ hp
    have nmI := fun {h : Heap} (F : Fr g L h m2) (y : Str) (p : Pos) (i : Int) (t : Tok) (e : m2 y = some (.int i t)) hx hd => PV.nameI (prog := pr) (w := w) (A := lA dp un gd L fa cd) (cn := "law") (cs := scF41) (L := L) (a := fa) (ccd := cd) (cl := [("tape", L + 1)]) (x := y) (pos := p) (i := i) (t := t) F e rfl hx hd
    have len1 : (((ths.take j).map (wordAt rest i)).foldl metAfter kvs0).length ≤ 1000 := by
      have h := foldl_len ((ths.take j).map (wordAt rest i)) kvs0
      have h2 : ((ths.take j).map (wordAt rest i)).length ≤ 8 := by rw [List.length_map, List.length_take]; omega
      omega
    refine st_ifNotE (a := lAt dp un gd g L fa cd m2) (news := (own ++ pre) ++ (md, od1) :: post) (P := fun n => ∃ od', n = (own ++ pre) ++ (md, od') :: post ∧ od'.IsDictOf (strKind pr w) (metAfter (((ths.take j).map (wordAt rest i)).foldl metAfter kvs0) (wordAt rest i x))) rfl F2 N2 ?_ ?_
    · refine l_right (x := wordAt rest i x) B X T hd hu (hG x hxm) ?_ ?_ hr2 hod1 len1 hap2 lm2.rows (.pv fun h F N => ?_) (.mono (.nameL (cn := "law") (cs := scF41) (L := L) (f := fa) (ccd := cd) (cl := [("tape", L + 1)]) (P := (· = .ref md)) rfl rfl lm2.met rfl rfl rfl (by decide)) fun v n hv => hv) (by rfl) (by rfl) (by rfl)
      · unfold wordAt; omega
      · unfold wordAt; omega
      · unfold wordAt
        exact .add (.add (.add (nmI F "rest" _ rest t3 lm2.rest rfl (by decide)) (.mul (.const 4096 _ _) (nmI F "third" _ x u g1 rfl (by decide)) (.of_left (by decide)))) (.mul (.const 4 _ _) (nmI F "opcode" _ i to g2 rfl (by decide)) (.of_left (by decide)))) (.const 3 _ _)
    · rintro h3 n3 tk3 ⟨od3, rfl, hod3⟩ F3 N3
      refine nextStep ⟨rfl, h3, tk3, m2, pre ++ (md, od3) :: post, rfl, F3, by rw [← List.append_assoc]; exact N3, by simp, ⟨lm2, g3, g2⟩, od3, rfl, ?_⟩
      rw [List.take_add_one, hx, List.map_append, List.foldl_append]
      exact hod3
  have fin : ∀ h' tk m' n', Fr g L h' m' → News g L h' n' → ((LM sm md r rd hi rest t1 t2 t3 m' ∧ m' "thirds" = some thv ∧ m' "opcode" = some (.int i to)) ∧ ∃ od', n' = pre ++ (md, od') :: post ∧ od'.IsDictOf (strKind pr w) (((ths.take ths.length).map (wordAt rest i)).foldl metAfter kvs0)) → Q .next { s with heap := h', toks := tk } := by
    rintro h' tk m' n' F' N' ⟨⟨lm', hth', -⟩, od', rfl, hod'⟩
    rw [List.take_length] at hod'
    exact k h' tk m' od' F' N' hod' lm' hth'
  have j0 : ((LM sm md r rd hi rest t1 t2 t3 m ∧ m "thirds" = some thv ∧ m "opcode" = some (.int i to)) ∧ ∃ od', pre ++ (md, od) :: post = pre ++ (md, od') :: post ∧ od'.IsDictOf (strKind pr w) (((ths.take 0).map (wordAt rest i)).foldl metAfter kvs0)) := ⟨⟨lm, hth, hop⟩, od, rfl, hod⟩
  have nmT : ∀ (p : Pos) (Q' : Value → Shared → Prop), Q' thv s → wpAny (model pr w) (lA dp un gd L fa cd) (eval (.Name "thirds" p) (lE L fa cd)) Q' (fun _ _ => False) s := fun p Q' q => nameX_L (cn := "law") (cs := scF41) (L := L) (a := fa) (ccd := cd) (cl := [("tape", L + 1)]) F hth q rfl rfl (by decide)
  rcases src with ⟨ax, o, its, rfl, hm, hl, hia⟩ | ⟨rng, t, u, v, rfl, hm, rfl⟩
  · have hsz : its.size = ths.length := by
      have : ∀ {vs : List Value} {xs : List Int}, IntsAre vs xs → vs.length = xs.length := by
        intro vs xs h
        induction h with
        | nil => rfl
        | cons _ _ _ ih => simp [ih]
      simpa using this hia
    have hax : ax ≠ md := hap _ hm
    refine for_src (env := lE L fa cd) (n := ths.length) (fpx := [ax]) (P := fun j v => ∃ x, ths[j]? = some x ∧ IsI x v) F (nmT _ _ ?_) (fun j m n => (LM sm md r rd hi rest t1 t2 t3 m ∧ m "thirds" = some _ ∧ m "opcode" = some (.int i to)) ∧ ∃ od', n = pre ++ (md, od') :: post ∧ od'.IsDictOf (strKind pr w) (((ths.take j).map (wordAt rest i)).foldl metAfter kvs0)) j0 (step [ax] fun a ha => by rw [List.mem_singleton.mp ha]; exact hax) fin
    have := src_list (w := w) (s := s) (env := lE L fa cd) (A := lA dp un gd L fa cd) (news := pre ++ (md, od) :: post) (h1 := s.heap) (tk1 := s.toks) rfl F N (up _ hm od) hl
    refine wpAny_mono this (fun it s₂ h₂ => ?_) fun _ _ z => z
    obtain ⟨I, h, tk, e1, e2, F2, N2, S2, o2⟩ := h₂
    refine ⟨I, h, tk, e1, e2, F2, N2, ?_, o2⟩
    rw [hsz] at S2
    exact src_mono S2 fun j v _ hv => intsAre_at hia j v (by simpa using hv)
  · refine for_src (env := lE L fa cd) (n := 8) (fpx := []) (P := fun j v => ∃ x, ([0, 1, 2, 3, 4, 5, 6, 7] : List Int)[j]? = some x ∧ IsI x v) F (nmT _ _ ?_) (fun j m n => (LM sm md r rd hi rest t1 t2 t3 m ∧ m "thirds" = some _ ∧ m "opcode" = some (.int i to)) ∧ ∃ od', n = pre ++ (md, od') :: post ∧ od'.IsDictOf (strKind pr w) (((([0, 1, 2, 3, 4, 5, 6, 7] : List Int).take j).map (wordAt rest i)).foldl metAfter kvs0)) j0 (step [] fun a ha => by cases ha) fin
    have := src_range (w := w) (s := s) (n := 8) (env := lE L fa cd) (A := lA dp un gd L fa cd) (news := pre ++ (md, od) :: post) (h1 := s.heap) (tk1 := s.toks) (r := rng) (t := t) (u := u) (v := v) rfl F N (N.get (up _ hm od)) (by decide) (by decide)
    refine wpAny_mono this (fun it s₂ h₂ => ?_) fun _ _ z => z
    obtain ⟨I, h, tk, e1, e2, F2, N2, S2, o2⟩ := h₂
    refine ⟨I, h, tk, e1, e2, F2, N2, src_mono S2 fun j v hj hv => ?_, o2⟩
    obtain ⟨t', rfl⟩ := hv
    refine ⟨0 + (j : Int), ?_, t', rfl⟩
    rcases j with _ | _ | _ | _ | _ | _ | _ | _ | j <;> first | rfl | omega
end
noncomputable abbrev rangeO (n : Nat) (t u v : Tok) : Obj := ⟨.type "range", none, .fields #[.int 0 t, .int (n : Nat) u, .int 1 v], #[]⟩
theorem EV.range {w : World} {a : At} {news : Led} {cn : Str} {cs : Scope} {L f0 : Addr} {ccd : Value} {cl : List (Str × Addr)} {mean : ExcName → Option Value} {mg mb : Str → Option Value} {n kk : Nat} {np p pos : Pos} (henv : a.env = envX cn cs L f0 ccd cl) (hL : a.L = L) (X : (K0 w.params).In a.g) (T : Top qv (looseW qv looseL) mean mg mb a.g)
    (hk : cs.kind = .function := by rfl) (h1 : (envX cn cs L f0 ccd cl).kindOf "range" = some .globalImplicit := by rfl) :
    EV w a news (.Call (.Name "range" np) [.Constant (.int (n : Int)) kk p] [] pos) (fun v n' => ∃ r t u v', v = .ref r ∧ n' = (r, rangeO n t u v') :: news) := by
  subst hL
  intro s Q E F N q
  rw [henv]
  refine wpAny_Call_ofName (nameX_B F X (topRead_of T) (v := .type "range") (by kernel_rfl) PyProof.Rows.Boot.«range» (by decide) ?_ hk h1 (by decide))
  refine PyProof.Rows.callWith_type1 (spliced_more (wpAny_Constant_int ?_))
  refine spliced_none (call_range_1 ?_)
  exact q _ _ _ _ ⟨_, _, _, _, rfl, rfl⟩ (F.push _) (News.push F N _)
section
variable {w : World} {mean : ExcName → Option Value} {mg mb : Str → Option Value} {A₀ : Around} {g : Heap} {L fa : Addr} {cd : Value} {m : Str → Option Value} {dp un : Nat} {gd : Option (List Code)} {pre post : Led} {md r : Addr}
theorem allWords_len (rest : Int) (ths : List Int) (h : ths.length ≤ 8) : ∀ n, (allWords rest ths n).length ≤ 8 * n := by
  intro n
  induction n with
  | zero => simp [allWords]
  | succ n ih =>
    have e : allWords rest ths (n + 1) = allWords rest ths n ++ ths.map (wordAt rest n) := by
      unfold allWords
      rw [List.range_succ, List.flatMap_append]
      simp
    rw [e, List.length_append, List.length_map]
    omega
theorem allWords_succ (rest : Int) (ths : List Int) (n : Nat) : allWords rest ths (n + 1) = allWords rest ths n ++ ths.map (wordAt rest n) := by
  unfold allWords
  rw [List.range_succ, List.flatMap_append]
  simp
theorem l_loops {s : Shared} {Q : Flow → Shared → Prop} {sm : Bool} {rd hi rest : Int} {t1 t2 t3 : Tok} {ths : List Int} {thv : Value} {od : Obj} (B : Below A₀ g [] g) (X : (K0 w.params).In g) (T : Top qv (looseW qv looseL) mean mg mb g) (hd : dp + 7 ≤ 900) (hu : un + 140 ≤ 9000)
    (F : Fr g L s.heap m) (N : News g L s.heap (pre ++ (md, od) :: post)) (hod : od.IsDictOf (strKind pr w) []) (lm : LM sm md r rd hi rest t1 t2 t3 m) (hth : m "thirds" = some thv) (src : Thirds (pre ++ post) thv ths)
    (hts : ∀ t ∈ ths, 0 ≤ t ∧ t < 8) (hlen : ths.length ≤ 8) (hG : ∀ i, i < 32 → ∀ t ∈ ths, Good (wordAt rest i t)) (r0 : 0 ≤ rest) (r1 : rest < 2 ^ 32) (hap : ∀ p ∈ pre ++ post, p.1 ≠ md) (hr : RowsAt w (pre ++ post) r)
    (k : ∀ h tk m' od', Fr g L h m' → News g L h (pre ++ (md, od') :: post) → od'.IsDictOf (strKind pr w) (metFold (allWords rest ths 32)) → LM sm md r rd hi rest t1 t2 t3 m' → Q .next { s with heap := h, toks := tk }) :
    wpAny (model pr w) (lA dp un gd L fa cd) (exec (stAt bdF41 5) (lE L fa cd)) Q (fun _ _ => False) s := by
  refine for_src (env := lE L fa cd) (n := 32) (fpx := []) (P := fun i v => ∃ t, v = .int (0 + (i : Int)) t) F ?_ (fun i m n => (LM sm md r rd hi rest t1 t2 t3 m ∧ m "thirds" = some thv) ∧ ∃ od', n = pre ++ (md, od') :: post ∧ od'.IsDictOf (strKind pr w) (metFold (allWords rest ths i))) ⟨⟨lm, hth⟩, od, rfl, hod⟩ ?_ ?_
  · refine EV.use (a := lAt dp un gd g L fa cd m) F N (EV.range (n := 32) (cn := "law") (cs := scF41) (L := L) (f0 := fa) (ccd := cd) (cl := [("tape", L + 1)]) rfl rfl X T) fun v n' h1 tk1 hv F1 N1 => ?_
    obtain ⟨rr, t, u, v', rfl, rfl⟩ := hv
    exact src_range (w := w) (s := s) (n := 32) (env := lE L fa cd) (A := lA dp un gd L fa cd) (news := pre ++ (md, od) :: post) rfl F1 (News.sub N1 fun p hp => .tail _ hp) (N1.get (.head _)) (by decide) (by decide)
  · rintro I i v m₁ n₁ own h tk hi32 ⟨to, rfl⟩ ⟨⟨lm1, hth1⟩, od1, rfl, hod1⟩ F1 N1 hown hI
    rw [Int.zero_add]
    refine assign_Name (storeX_L F1 N1 fun h2 F2 N2 => ?_)
    rw [← List.append_assoc] at N2
    have hmdI : I ≠ md := fun z => hI (md, od1) (List.mem_append_right _ (.head _)) z.symm
    have hap2 : ∀ p ∈ (own ++ pre) ++ post, p.1 ≠ md := fun p hp => by
      rw [List.append_assoc] at hp
      rcases List.mem_append.mp hp with hp | hp
      · rcases hown p hp with z | z
        · rw [z]; exact hmdI
        · cases z
      · exact hap p hp
    have up2 : ∀ p ∈ pre ++ post, p ∈ (own ++ pre) ++ post := fun p hp => by rw [List.append_assoc]; exact List.mem_append_right _ hp
    have src2 : Thirds ((own ++ pre) ++ post) thv ths := by
      rcases src with ⟨ax, o, its, a, b, c⟩ | ⟨rng, t, u, v, a, b, c⟩
      · exact .inl ⟨ax, o, its, a, up2 _ b, c⟩
      · exact .inr ⟨rng, t, u, v, a, up2 _ b, c⟩
    have hml := metFold_len (allWords rest ths i)
    have hal := allWords_len rest ths hlen i
    refine wpAny_execs_cons ?_
    refine l_inner (s := { s with heap := h2, toks := tk + 1 }) (kvs0 := metFold (allWords rest ths i)) (i := i) (to := to) B X T hd hu F2 N2 hod1 ⟨lm1.small, lm1.met, lm1.rows, lm1.rd, lm1.high, lm1.rest⟩ hth1 rfl src2 hts hlen (by omega) (hG i hi32) r0 r1 hi32 hap2 (hr.up up2) fun h3 tk3 m3 od3 F3 N3 hod3 lm3 hth3 => ?_
    refine nextStep ⟨rfl, h3, tk3, m3, pre ++ (md, od3) :: post, rfl, F3, by rw [← List.append_assoc]; exact N3, by simp, ⟨lm3, hth3⟩, od3, rfl, ?_⟩
    unfold metFold at hod3 ⊢
    rw [allWords_succ, List.foldl_append]
    exact hod3
  · rintro h tk m' n' F' N' ⟨⟨lm', -⟩, od', rfl, hod'⟩
    exact k h tk m' od' F' N' hod' lm'
end
section
variable {w : World} {A : Around} {env : Env} {s : Shared} {g : Heap}
theorem for_list {Q : Flow → Shared → Prop} {y : Str} {py fpos : Pos} {iter : Expr} {body : List Stmt} {m : Str → Option Value} {R : Addr → Array Value → Led → Prop} (hh : A.handled = none) (F : Fr g env.locals s.heap m)
    (ev : ∀ (Q' E' : Value → Shared → Prop), (∀ v n h tk, (∃ ax o its, v = .ref ax ∧ (ax, o) ∈ n ∧ IsL o its ∧ R ax its n) → Fr g env.locals h m → News g env.locals h n → Q' v { s with heap := h, toks := tk }) → wpAny (model pr w) A (eval iter env) Q' E' s)
    (J : (Str → Option Value) → Prop) (h0 : J m)
    (step : ∀ (I ax : Addr) (its : Array Value) (n : Led) (i : Nat) (v : Value) (m₁ : Str → Option Value) (own : Led) (h : Heap) (tk : Tok), R ax its n → its[i]? = some v → J m₁ → Fr g env.locals h m₁ → News g env.locals h (own ++ n) → (∀ p ∈ own, p.1 = I ∨ p.1 = ax) → (∀ p ∈ n, p.1 ≠ I) →
      wpAny (model pr w) A (assign (.Name y py) env v) (fun _ s₂ => wpAny (model pr w) A (execs body env) (fun f s' => f = .next ∧ ∃ h' tk m', s' = { s with heap := h', toks := tk } ∧ Fr g env.locals h' m' ∧ News g env.locals h' (own ++ n) ∧ J m') (fun _ _ => False) s₂) (fun _ _ => False) { s with heap := h, toks := tk })
    (k : ∀ ax its n h' tk m', R ax its n → Fr g env.locals h' m' → News g env.locals h' n → J m' → Q .next { s with heap := h', toks := tk })
    (hs : ∀ x, foldedSetIterable iter env x = pure x := by intro _; rfl) :
    wpAny (model pr w) A (exec (.For (.Name y py) iter body [] fpos) env) Q (fun _ _ => False) s := by
  refine For_turns F ?_ hs PassesOwn.never
  refine ev _ _ fun v n h tk hv F1 N1 => ?_
  obtain ⟨ax, o, its, rfl, hm, hl, hR⟩ := hv
  have hsrc := src_list (w := w) (s := s) (env := env) (A := A) (news := n) (h1 := h) (tk1 := tk) hh F1 N1 hm hl
  refine wpAny_mono hsrc (fun it s₂ h₂ => ?_) fun _ _ z => z.elim
  obtain ⟨I, h2, tk2, rfl, rfl, F2, N2, ⟨⟨St, W, hst⟩, hloc, hnew⟩, hoff⟩ := h₂
  refine ⟨I, [I, ax], [I], its.size, _, _, St, m, n, fun i m' n' => n' = n ∧ J m', rfl, KTurns.ofWalks W (fun i v s Q E _ q => wpAny_pure q), hloc, fun b hb => by rw [List.mem_singleton.mp hb]; exact hnew, fun p hp hb => hoff p hp (List.mem_singleton.mp hb), hst, F2, N2, ⟨rfl, h0⟩, ?_, fun h' tk' m' n' F' N' _ hJ => k ax its n h' tk' m' hR F' (hJ.1 ▸ N') hJ.2⟩
  rintro i v m₁ news₁ h₁ tk₁ own hi hP ⟨rfl, hJ⟩ hw hown - - - F3 N3
  refine wpAny_mono (step I ax its news₁ i v m₁ own h₁ tk₁ hR hP hJ F3 N3 (fun p hp => by
    rcases List.mem_cons.mp (hown p hp) with z | z
    · exact .inl z
    · exact .inr (List.mem_singleton.mp z)) (fun p hp z => hw p hp (List.mem_singleton.mpr z))) (fun _ s₂ h₂ => wpAny_mono h₂ (fun f s' hf => ?_) fun _ _ e => e) fun _ _ e => e
  obtain ⟨rfl, h', tk', m', rfl, F4, N4, hJ4⟩ := hf
  exact .next (.intro F4 N4 hw ⟨rfl, hJ4⟩)
end
section
variable {w : World} {mean : ExcName → Option Value} {mg mb : Str → Option Value} {A₀ : Around} {g : Heap} {L fa : Addr} {cd : Value} {m : Str → Option Value} {dp un : Nat} {gd : Option (List Code)} {r : Addr}
theorem EV.dict0 {a : At} {news : Led} {pos : Pos} (nl : a.g.NoLimit) : EV w a news (.Dict [] [] pos) (fun v n => ∃ d od, v = .ref d ∧ n = (d, od) :: news ∧ od.IsDictOf (strKind pr w) [] ∧ (d == sysModules) = false ∧ ∀ p ∈ news, p.1 < d) := fun s Q E F N q =>
  newDict_K F N nl fun d h' o F' N' hlt lo hd _ _ _ => q _ _ h' s.toks ⟨d, o, rfl, rfl, hd, lo, hlt⟩ F' N'
theorem l_rightD {x : Int} {e : Expr} {p p2 p3 p4 : Pos} (B : Below A₀ g [] g) (X : (K0 w.params).In g) (T : Top qv (looseW qv looseL) mean mg mb g) (hd : dp + 7 ≤ 900) (hu : un + 140 ≤ 9000) (G : Good x) (h0 : 0 ≤ x) (h1 : x < 2 ^ 33) {news : Led}
    (hr : RowsAt w news r) (hrr : m "rows" = some (.ref r)) (ex : EV w (lAt dp un gd g L fa cd m) news e (Same news (IsI x)))
    (h2 : starEach [e, .Name "rows" p2, .Dict [] [] p3] (lE L fa cd) = (false, eval e (lE L fa cd)) :: starEach [.Name "rows" p2, .Dict [] [] p3] (lE L fa cd))
    (h4 : (backTo p4 (starEach [.Name "rows" p2, .Dict [] [] p3] (lE L fa cd))).any (·.1) = false) :
    EV w (lAt dp un gd g L fa cd m) news (.Call (.Name "_law_word_right" p) [e, .Name "rows" p2, .Dict [] [] p3] [] p4) (fun v n => v = .bool true ∧ ∀ p ∈ news, p ∈ n) :=
  EV.callS (a := lAt dp un gd g L fa cd m) (cn := "law") (cs := scF41) (L := L) (f0 := fa) (ccd := cd) (cl := [("tape", L + 1)]) rfl B X T X T (f := 1115) (d := 7) (Pa := fun vs n => ∃ t d od, vs = [.int x t, .ref r, .ref d] ∧ n = (d, od) :: news ∧ od.IsDictOf (strKind pr w) [] ∧ ∀ p ∈ news, p.1 ≠ d) (by kernel_rfl) (by kernel_rfl)
    (.consI ex (fun t => .consV (.nameL (cn := "law") (cs := scF41) (L := L) (f := fa) (ccd := cd) (cl := [("tape", L + 1)]) rfl rfl hrr rfl rfl rfl (by decide)) (.cons (EV.dict0 T.nolimit) (fun v n hv => .nil (by
      obtain ⟨d, od, rfl, rfl, hod, -, hlt⟩ := hv
      exact ⟨t, d, od, rfl, rfl, hod, fun p hp => Nat.ne_of_lt (hlt p hp)⟩)) (by rfl))) h2)
    (fun vs n h => by
      obtain ⟨t, d, od, rfl, rfl, hod, hap⟩ := h
      intro dp un gd cn cs a ccd cl A₀ base g L m s Q E S XB TB hk hd hu q
      exact right (pre := []) (post := news) (md := d) (od := od) (kvs := []) G h0 h1 hr hod (by simp) hap dp un gd cn cs a ccd cl A₀ base g L m s Q E S XB TB hk hd hu fun r' n' h' tk' hr' F' N' => q r' n' h' tk' (by
        obtain ⟨a, od', rfl, -⟩ := hr'
        exact ⟨a, fun p hp => .tail _ hp⟩) F' N') hd (by omega) rfl rfl (by decide) h2 h4
end
noncomputable def IntP (p : Int → Prop) (v : Value) : Prop := ∃ i, p i ∧ IsI i v
section
variable {w : World} {a : At} {news : Led}
theorem EV.binX {l r : Expr} {op : Operator} {pos : Pos} {pi pj : Int → Prop} {Pn Pn' : Led → Prop} {opf : Int → Int → Int} (x : EV w a news l (fun v n => IntP pi v ∧ Pn n)) (y : ∀ n, Pn n → EV w a n r (fun v n' => IntP pj v ∧ Pn' n'))
    (f : ∀ i j, pi i → pj j → ∀ (s : Shared) (t u : Tok) (Q E : Value → Shared → Prop), (∀ tk t, Q (.int (opf i j) t) { s with toks := tk }) → wpAny (model pr w) a.A (binaryOp op (.int i t) (.int j u)) Q E s) :
    EV w a news (.BinOp l op r pos) (fun v n => IntP (fun k => ∃ i j, pi i ∧ pj j ∧ k = opf i j) v ∧ Pn' n) := by
  intro s Q E F N q
  refine wpAny_BinOp (x s _ _ F N fun v n h1 tk hv F1 N1 => ?_)
  obtain ⟨⟨i, hi, t, rfl⟩, hn⟩ := hv
  refine y n hn _ _ _ F1 N1 fun v n' h2 tk' hv F2 N2 => ?_
  obtain ⟨⟨j, hj, u, rfl⟩, hn'⟩ := hv
  exact f i j hi hj _ t u _ _ fun tk'' t' => q _ n' h2 _ ⟨⟨_, ⟨i, j, hi, hj, rfl⟩, t', rfl⟩, hn'⟩ F2 N2
theorem EV.constP {Pn : Led → Prop} (hn : Pn news) {i : Int} {k : Nat} {p : Pos} {q : Int → Prop} (hq : q i) : EV w a news (.Constant (.int i) k p) (fun v n => IntP q v ∧ Pn n) := (EV.pv fun h F N => .const i k p).mono fun v n hv => ⟨⟨i, hq, hv.1⟩, hv.2 ▸ hn⟩
theorem IntP.mono {p q : Int → Prop} {v : Value} (h : IntP p v) (f : ∀ i, p i → q i) : IntP q v := by
  obtain ⟨i, hi, hv⟩ := h
  exact ⟨i, f i hi, hv⟩
end
structure TF (tp cl cT : Addr) (pre post : Led) : Prop where
  cells : ∃ oc items xs, (cl, oc) ∈ pre ++ post ∧ IsL oc items ∧ IntsAre items.toList xs ∧ items.size < 2 ^ 40
  cell : ∃ occ, (cT, occ) ∈ pre ++ post ∧ occ.data = .cell (some (.ref tp))
  ap : ∀ p ∈ pre ++ post, p.1 ≠ tp
theorem mid_up {pre post : Led} {x : Addr × Obj} : ∀ p ∈ pre ++ post, p ∈ pre ++ x :: post := fun p hp => by
  rcases List.mem_append.mp hp with h | h
  · exact List.mem_append_left _ h
  · exact List.mem_append_right _ (.tail _ h)
section
variable {w : World} {mean : ExcName → Option Value} {mg mb : Str → Option Value} {A₀ : Around} {g : Heap} {L fa : Addr} {cd : Value} {m : Str → Option Value} {dp un : Nat} {gd : Option (List Code)} {pre post n : Led} {tp cl r : Addr}
theorem l_take {k c : Int} {kk : Nat} {p p2 p3 p4 : Pos} (B : Below A₀ g [] g) (X : (K0 w.params).In g) (T : Top qv (looseW qv looseL) mean mg mb g) (hd : dp + 7 ≤ 900) (hu : un + 140 ≤ 9000) (tf : TF tp cl (L + 1) pre post) (hn : TapeL tp cl pre post k n) (h0 : 0 ≤ k) (h1 : k < 2 ^ 20) (hc : 0 < c) :
    EV w (lAt dp un gd g L fa cd m) n (.Call (.Name "_law_take" p) [.Name "tape" p2, .Constant (.int c) kk p3] [] p4) (fun v n' => IntP (fun j => 0 ≤ j ∧ j < c) v ∧ TapeL tp cl pre post (k + 1) n') := by
  obtain ⟨⟨oc, items, xs, hm, hoc, hi, hz⟩, ⟨occ, hmc, hcell⟩, hap⟩ := tf
  have hm' : (L + 1, occ) ∈ n := by
    obtain ⟨o, t, rfl, -⟩ := hn
    exact mid_up _ hmc
  refine EV.mono (EV.call (a := lAt dp un gd g L fa cd m) (cn := "law") (cs := scF41) (L := L) (f0 := fa) (ccd := cd) (cl := [("tape", L + 1)]) rfl B X T (f := 1084) (d := 1) (Pa := fun vs n' => ∃ t, vs = [.ref tp, .int c t] ∧ n' = n) (by kernel_rfl) (by kernel_rfl)
    (.consV (.nameC (cn := "law") (cs := scF41) (L := L) (f := fa) (ccd := cd) (cl := [("tape", L + 1)]) (c := L + 1) rfl rfl rfl hm' hcell rfl rfl (by decide)) (.consI (.pv fun h F N => .const c _ _) fun t => .nil ⟨t, rfl, rfl⟩))
    (P := fun v n' => (∃ j, 0 ≤ j ∧ j < c ∧ IsI j v) ∧ TapeL tp cl pre post (k + 1) n') (fun vs n' h => by
      obtain ⟨t, e1, e2⟩ := h
      rw [e1, e2]
      exact take hn hm hoc hi hz hap h0 h1 hc) (by omega) (by omega)) fun v n' hv => ?_
  obtain ⟨⟨j, j0, j1, hj⟩, hn'⟩ := hv
  exact ⟨⟨j, ⟨j0, j1⟩, hj⟩, hn'⟩
theorem l_lastStep {s : Shared} {x : Int} {e : Expr} {p p0 p2 p3 p4 pI : Pos} {body : List Stmt} (B : Below A₀ g [] g) (X : (K0 w.params).In g) (T : Top qv (looseW qv looseL) mean mg mb g) (hd : dp + 7 ≤ 900) (hu : un + 140 ≤ 9000) (G : Good x) (h0 : 0 ≤ x) (h1 : x < 2 ^ 33) {led : Led}
    (F : Fr g L s.heap m) (N : News g L s.heap led) (hr : RowsAt w led r) (hrr : m "rows" = some (.ref r)) (ex : ∀ h, Fr g L h m → PV pr w (lA dp un gd L fa cd) (lE L fa cd) h e (IsI x))
    (h2 : starEach [e, .Name "rows" p2, .Dict [] [] p3] (lE L fa cd) = (false, eval e (lE L fa cd)) :: starEach [.Name "rows" p2, .Dict [] [] p3] (lE L fa cd))
    (h4 : (backTo p4 (starEach [.Name "rows" p2, .Dict [] [] p3] (lE L fa cd))).any (·.1) = false) :
    wpAny (model pr w) (lA dp un gd L fa cd) (execs [.If (.UnaryOp .Not (.Call (.Name "_law_word_right" p) [e, .Name "rows" p2, .Dict [] [] p3] [] p4) p0) body [] pI] (lE L fa cd)) (fun f s' => f = .next ∧ ∃ h' tk m', s' = { s with heap := h', toks := tk } ∧ Fr g L h' m' ∧ News g L h' led ∧ m' = m) (fun _ _ => False) s := by
  refine st_ifNotE (a := lAt dp un gd g L fa cd m) (news := led) (P := fun n => ∀ p ∈ led, p ∈ n) rfl F N (l_rightD B X T hd hu G h0 h1 hr hrr (.pv fun h F N => ex h F) h2 h4) ?_
  intro h n tk hs F1 N1
  exact nextStep ⟨rfl, h, tk, m, rfl, F1, News.sub N1 hs, rfl⟩
end
end Mine
end
section
open PySem PySem.W PyProof.Rows PySem.Calls PyProof.V PySem.Spec PyProof.Rows.LCg
set_option maxHeartbeats 4000000
namespace Mine
section
variable {w : World} {a : At} {news : Led}
theorem EVs.cV {l : List Expr} {e : Expr} {es : List Expr} {i : Int} {R : List Value → Led → Prop} (hl : l = e :: es) (x : EV w a news e (Same news (IsI i))) (y : ∀ l', l' = es → ∀ t, EVs w a news l' fun vs n' => R (.int i t :: vs) n')
    (he : starEach (e :: es) a.env = (false, eval e a.env) :: starEach es a.env := by rfl) : EVs w a news l R := by
  subst hl
  exact .consI x (fun t => y es rfl t) he
theorem EVs.xV {l : List Expr} {e : Expr} {es : List Expr} {P R : _} (hl : l = e :: es) (x : EV w a news e P) (y : ∀ l', l' = es → ∀ v n, P v n → EVs w a n l' fun vs n' => R (v :: vs) n')
    (he : starEach (e :: es) a.env = (false, eval e a.env) :: starEach es a.env := by rfl) : EVs w a news l R := by
  subst hl
  exact .cons x (fun v n p => y es rfl v n p) he
theorem EVs.nV {l : List Expr} {R : List Value → Led → Prop} (hl : l = []) (h : R [] news) : EVs w a news l R := by
  subst hl
  exact .nil h
theorem EV.listV {e : Expr} {elts : List Expr} {pos : Pos} {P : List Value → Led → Prop} (he : e = .List elts pos) (y : ∀ l, l = elts → EVs w a news l P) (hl : ∀ vs n, P vs n → vs.length ≤ 100) :
    EV w a news e (fun v n => ∃ l vs n1, v = .ref l ∧ P vs n1 ∧ n = (l, ⟨.type "list", none, .seq vs.toArray 0, #[]⟩) :: n1 ∧ ∀ p ∈ n1, p.1 ≠ l) := by
  subst he
  exact .list (y elts rfl) hl
end
theorem for_listV {w : World} {A : Around} {env : Env} {s : Shared} {g : Heap} {Q : Flow → Shared → Prop} {st : Stmt} {y : Str} {py fpos : Pos} {iter : Expr} {body : List Stmt} {m : Str → Option Value} {R : Addr → Array Value → Led → Prop} (hst : st = .For (.Name y py) iter body [] fpos) (hh : A.handled = none) (F : Fr g env.locals s.heap m)
    (ev : ∀ it, it = iter → ∀ (Q' E' : Value → Shared → Prop), (∀ v n h tk, (∃ ax o its, v = .ref ax ∧ (ax, o) ∈ n ∧ IsL o its ∧ R ax its n) → Fr g env.locals h m → News g env.locals h n → Q' v { s with heap := h, toks := tk }) → wpAny (model pr w) A (eval it env) Q' E' s)
    (J : (Str → Option Value) → Prop) (h0 : J m)
    (step : ∀ (bd : List Stmt), bd = body → ∀ (I ax : Addr) (its : Array Value) (n : Led) (i : Nat) (v : Value) (m₁ : Str → Option Value) (own : Led) (h : Heap) (tk : Tok), R ax its n → its[i]? = some v → J m₁ → Fr g env.locals h m₁ → News g env.locals h (own ++ n) → (∀ p ∈ own, p.1 = I ∨ p.1 = ax) → (∀ p ∈ n, p.1 ≠ I) →
      wpAny (model pr w) A (assign (.Name y py) env v) (fun _ s₂ => wpAny (model pr w) A (execs bd env) (fun f s' => f = .next ∧ ∃ h' tk m', s' = { s with heap := h', toks := tk } ∧ Fr g env.locals h' m' ∧ News g env.locals h' (own ++ n) ∧ J m') (fun _ _ => False) s₂) (fun _ _ => False) { s with heap := h, toks := tk })
    (k : ∀ ax its n h' tk m', R ax its n → Fr g env.locals h' m' → News g env.locals h' n → J m' → Q .next { s with heap := h', toks := tk })
    (hs : ∀ x, foldedSetIterable iter env x = pure x := by intro _; rfl) :
    wpAny (model pr w) A (exec st env) Q (fun _ _ => False) s := by
  subst hst
  exact for_list hh F (ev iter rfl) J h0 (step body rfl) k hs
theorem IntsAre.len {vs : List Value} {xs : List Int} (h : IntsAre vs xs) : vs.length = xs.length := by
  induction h with
  | nil => rfl
  | cons _ _ _ ih => simp [ih]
noncomputable def lastWords (rest : Int) : List Int := [115, 1048691, 270532723, 807403635, 273678451, 301990003, 243, rest + 262144]
section
variable {w : World} {mean : ExcName → Option Value} {mg mb : Str → Option Value} {A₀ : Around} {g : Heap} {L fa : Addr} {cd : Value} {m : Str → Option Value} {dp un : Nat} {gd : Option (List Code)} {pre post n : Led} {md tp cl r : Addr}
theorem l_last1 {st : Stmt} (hst : st = stAt bdF41 8) {s : Shared} {Q : Flow → Shared → Prop} {sm : Bool} {rd hi rest : Int} {t1 t2 t3 : Tok} (B : Below A₀ g [] g) (X : (K0 w.params).In g) (T : Top qv (looseW qv looseL) mean mg mb g) (hd : dp + 7 ≤ 900) (hu : un + 140 ≤ 9000)
    (F : Fr g L s.heap m) (N : News g L s.heap n) (lm : LM sm md r rd hi rest t1 t2 t3 m) (hr : RowsAt w n r) (hG : ∀ x ∈ lastWords rest, Good x ∧ 0 ≤ x ∧ x < 2 ^ 33)
    (k : ∀ h tk m', Fr g L h m' → News g L h n → LM sm md r rd hi rest t1 t2 t3 m' → Q .next { s with heap := h, toks := tk }) :
    wpAny (model pr w) (lA dp un gd L fa cd) (exec st (lE L fa cd)) Q (fun _ _ => False) s := by
  have nmI := fun {h : Heap} {m : Str → Option Value} (F : Fr g L h m) (y : Str) (p : Pos) (i : Int) (t : Tok) (e : m y = some (.int i t)) hx hd => PV.nameI (prog := pr) (w := w) (A := lA dp un gd L fa cd) (cn := "law") (cs := scF41) (L := L) (a := fa) (ccd := cd) (cl := [("tape", L + 1)]) (x := y) (pos := p) (i := i) (t := t) F e rfl hx hd
  refine for_listV (hst.trans rfl) (env := lE L fa cd) (R := fun ax its n' => IntsAre its.toList (lastWords rest) ∧ (∀ p ∈ n, p ∈ n')) rfl F (fun it hit Q' E' q => ?_) (fun m' => LM sm md r rd hi rest t1 t2 t3 m') lm ?_ ?_
  · refine EV.use (a := lAt dp un gd g L fa cd m) F N (EV.listV (P := fun vs n' => IntsAre vs (lastWords rest) ∧ n' = n) hit (fun l0 h0 => ?_) fun vs n' hv => ?_) fun v n' h tk hv F' N' => q v n' h tk ?_ F' N'
    · refine .cV h0 (.pv fun h F N => .const 115 _ _) fun l1 h1 u1 => ?_
      refine .cV h1 (.pv fun h F N => .const 1048691 _ _) fun l2 h2 u2 => ?_
      refine .cV h2 (.pv fun h F N => .const 270532723 _ _) fun l3 h3 u3 => ?_
      refine .cV h3 (.pv fun h F N => .const 807403635 _ _) fun l4 h4 u4 => ?_
      refine .cV h4 (.pv fun h F N => .const 273678451 _ _) fun l5 h5 u5 => ?_
      refine .cV h5 (.pv fun h F N => .const 301990003 _ _) fun l6 h6 u6 => ?_
      refine .cV h6 (i := 243) (.pv fun h F N => .csum (.add (.c 115 _ _) (.c 128 _ _) rfl)) fun l7 h7 u7 => ?_
      refine .cV h7 (i := rest + 262144) (.pv fun h F N => .add (nmI F "rest" _ rest t3 lm.rest rfl (by decide)) (.mul (a := 64) (b := 4096) (.const 64 _ _) (.const 4096 _ _) (.of_left (by decide)))) fun l8 h8 u8 => ?_
      exact .nV h8 ⟨.cons _ _ (.cons _ _ (.cons _ _ (.cons _ _ (.cons _ _ (.cons _ _ (.cons _ _ (.cons _ _ .nil))))))), rfl⟩
    · rw [IntsAre.len hv.1]
      exact (show 8 ≤ 100 by decide)
    · obtain ⟨l, vs, n1, rfl, ⟨hia, rfl⟩, rfl, -⟩ := hv
      exact ⟨l, _, _, rfl, .head _, isL_new _ 0, by simpa using hia, fun p hp => .tail _ hp⟩
  · rintro bd rfl I ax its n' i v m₁ own h tk ⟨hia, hs⟩ hv lm1 F1 N1 hown hI
    obtain ⟨x, hx, u, rfl⟩ := intsAre_at hia i v (by simpa using hv)
    obtain ⟨gx, x0, x1⟩ := hG x (List.mem_of_getElem? hx)
    refine assign_Name (storeX_L F1 N1 fun h2 F2 N2 => ?_)
    have lm2 : LM sm md r rd hi rest t1 t2 t3 (fun y => if y = "whole" then some (.int x u) else m₁ y) := ⟨lm1.small, lm1.met, lm1.rows, lm1.rd, lm1.high, lm1.rest⟩
    refine wpAny_mono (l_lastStep (x := x) B X T hd hu gx x0 x1 F2 N2 (hr.up fun p hp => List.mem_append_right _ (hs p hp)) lm2.rows (fun h F => nmI F "whole" _ x u rfl rfl (by decide)) (by rfl) (by rfl)) (fun f s' hf => ?_) fun _ _ z => z
    obtain ⟨rfl, h', tk', m', rfl, F', N', rfl⟩ := hf
    exact ⟨rfl, h', tk', _, rfl, F', N', lm2⟩
  · rintro ax its n' h' tk m' ⟨-, hs⟩ F' N' lm'
    exact k h' tk m' F' (News.sub N' hs) lm'
noncomputable def IsLow (x : Int) : Prop := x = 0 ∨ x = 1 ∨ x = 2 ∨ (∃ j, 0 ≤ j ∧ j < 3 ∧ x = 112 + j) ∨ (∃ j, 0 ≤ j ∧ j < 32 ∧ x = 4 * j + 2) ∨ x = 127
theorem l_last2 {st : Stmt} (hst : st = stAt bdF41 9) {s : Shared} {Q : Flow → Shared → Prop} {sm : Bool} {rd hi rest kt : Int} {t1 t2 t3 : Tok} (B : Below A₀ g [] g) (X : (K0 w.params).In g) (T : Top qv (looseW qv looseL) mean mg mb g) (hd : dp + 7 ≤ 900) (hu : un + 140 ≤ 9000)
    (F : Fr g L s.heap m) (N : News g L s.heap n) (lm : LM sm md r rd hi rest t1 t2 t3 m) (tf : TF tp cl (L + 1) pre post) (hn : TapeL tp cl pre post kt n) (k0 : 0 ≤ kt) (k1 : kt < 1000) (hr : RowsAt w (pre ++ post) r) (hG : ∀ x, IsLow x → Good (rest + x) ∧ 0 ≤ rest + x ∧ rest + x < 2 ^ 33)
    (k : ∀ h tk m' n', Fr g L h m' → News g L h n' → Q .next { s with heap := h, toks := tk }) :
    wpAny (model pr w) (lA dp un gd L fa cd) (exec st (lE L fa cd)) Q (fun _ _ => False) s := by
  have nmI := fun {h : Heap} {m : Str → Option Value} (F : Fr g L h m) (y : Str) (p : Pos) (i : Int) (t : Tok) (e : m y = some (.int i t)) hx hd => PV.nameI (prog := pr) (w := w) (A := lA dp un gd L fa cd) (cn := "law") (cs := scF41) (L := L) (a := fa) (ccd := cd) (cl := [("tape", L + 1)]) (x := y) (pos := p) (i := i) (t := t) F e rfl hx hd
  refine for_listV (hst.trans rfl) (env := lE L fa cd) (R := fun ax its n' => (∃ xs, IntsAre its.toList xs ∧ ∀ x ∈ xs, IsLow x) ∧ RowsAt w n' r) rfl F (fun it hit Q' E' q => ?_) (fun m' => LM sm md r rd hi rest t1 t2 t3 m') lm ?_ ?_
  · refine EV.use (a := lAt dp un gd g L fa cd m) F N (EV.listV (P := fun vs n' => (∃ xs, IntsAre vs xs ∧ xs.length = 6 ∧ ∀ x ∈ xs, IsLow x) ∧ TapeL tp cl pre post (kt + 1 + 1) n') hit (fun l0 h0 => ?_) fun vs n' hv => ?_) fun v n' h tk hv F' N' => q v n' h tk ?_ F' N'
    · refine .cV h0 (.pv fun h F N => .const 0 _ _) fun l1 h1 u1 => ?_
      refine .cV h1 (.pv fun h F N => .const 1 _ _) fun l2 h2 u2 => ?_
      refine .cV h2 (.pv fun h F N => .const 2 _ _) fun l3 h3 u3 => ?_
      refine .xV h3 (EV.binX (pi := (· = 112)) (pj := fun j => 0 ≤ j ∧ j < 3) (opf := (· + ·)) (Pn := fun n' => n' = n) (Pn' := TapeL tp cl pre post (kt + 1)) (.constP (Pn := fun n' => n' = n) (q := (· = 112)) rfl rfl) (fun n' hn' => by rw [hn']; exact l_take B X T hd hu tf hn k0 (by omega) (by decide)) (fun i j _ _ s t u Q E q => add_int (q _ _))) fun l4 h4 v4 n4 hv4 => ?_
      obtain ⟨⟨x4, ⟨i4, j4, rfl, hj4, rfl⟩, u4, rfl⟩, hn4⟩ := hv4
      refine .xV h4 (EV.binX (pi := fun i => ∃ j, 0 ≤ j ∧ j < 32 ∧ i = 4 * j) (pj := (· = 2)) (opf := (· + ·)) (Pn := TapeL tp cl pre post (kt + 1 + 1)) (Pn' := TapeL tp cl pre post (kt + 1 + 1)) (EV.mono (EV.binX (pi := (· = 4)) (pj := fun j => 0 ≤ j ∧ j < 32) (opf := (· * ·)) (Pn := fun n' => n' = n4) (Pn' := TapeL tp cl pre post (kt + 1 + 1)) (.constP (Pn := fun n' => n' = n4) (q := (· = 4)) rfl rfl) (fun n' hn' => by rw [hn']; exact l_take B X T hd hu tf hn4 (by omega) (by omega) (by decide)) (fun i j hi hj s t u Q E q => mul_int (q _ _) (.of_left (by rw [hi]; decide)))) fun v n' hv => ⟨hv.1.mono fun i hi => by obtain ⟨i', j', rfl, hj', rfl⟩ := hi; exact ⟨j', hj'.1, hj'.2, rfl⟩, hv.2⟩) (fun n' hn' => .constP (Pn := TapeL tp cl pre post (kt + 1 + 1)) (q := (· = 2)) hn' rfl) (fun i j _ _ s t u Q E q => add_int (q _ _))) fun l5 h5 v5 n5 hv5 => ?_
      obtain ⟨⟨x5, ⟨i5, j5, ⟨j, j0, j1, rfl⟩, rfl, rfl⟩, u5, rfl⟩, hn5⟩ := hv5
      refine .cV h5 (.pv fun h F N => .const 127 _ _) fun l6 h6 u6 => ?_
      refine .nV h6 ⟨⟨_, .cons _ _ (.cons _ _ (.cons _ _ (.cons _ _ (.cons _ _ (.cons _ _ .nil))))), rfl, fun x hx => ?_⟩, hn5⟩
      simp only [List.mem_cons, List.not_mem_nil, or_false] at hx
      rcases hx with rfl | rfl | rfl | rfl | rfl | rfl
      · exact .inl rfl
      · exact .inr (.inl rfl)
      · exact .inr (.inr (.inl rfl))
      · exact .inr (.inr (.inr (.inl ⟨j4, hj4.1, hj4.2, rfl⟩)))
      · exact .inr (.inr (.inr (.inr (.inl ⟨j, j0, j1, rfl⟩))))
      · exact .inr (.inr (.inr (.inr (.inr rfl))))
    · obtain ⟨⟨xs, hia, hl, -⟩, -⟩ := hv
      rw [IntsAre.len hia, hl]
      decide
    · obtain ⟨l, vs, n1, rfl, ⟨⟨xs, hia, -, hlow⟩, o, t, rfl, -⟩, rfl, -⟩ := hv
      exact ⟨l, _, _, rfl, .head _, isL_new _ 0, ⟨xs, by simpa using hia, hlow⟩, hr.up fun p hp => .tail _ (mid_up p hp)⟩
  · rintro bd rfl I ax its n' i v m₁ own h tk ⟨⟨xs, hia, hlow⟩, hrn⟩ hv lm1 F1 N1 hown hI
    obtain ⟨x, hx, u, rfl⟩ := intsAre_at hia i v (by simpa using hv)
    obtain ⟨gx, x0, x1⟩ := hG x (hlow x (List.mem_of_getElem? hx))
    refine assign_Name (storeX_L F1 N1 fun h2 F2 N2 => ?_)
    have lm2 : LM sm md r rd hi rest t1 t2 t3 (fun y => if y = "low" then some (.int x u) else m₁ y) := ⟨lm1.small, lm1.met, lm1.rows, lm1.rd, lm1.high, lm1.rest⟩
    refine wpAny_mono (l_lastStep (x := rest + x) B X T hd hu gx x0 x1 F2 N2 (hrn.up fun p hp => List.mem_append_right _ hp) lm2.rows (fun h F => .add (nmI F "rest" _ rest t3 lm2.rest rfl (by decide)) (nmI F "low" _ x u rfl rfl (by decide))) (by rfl) (by rfl)) (fun f s' hf => ?_) fun _ _ z => z
    obtain ⟨rfl, h', tk', m', rfl, F', N', rfl⟩ := hf
    exact ⟨rfl, h', tk', _, rfl, F', N', lm2⟩
  · rintro ax its n' h' tk m' - F' N' -
    exact k h' tk m' n' F' N'
end
section
variable {w : World} {a : At} {news : Led}
theorem EV.inListI {e l r : Expr} {elts : List Expr} {lp pos : Pos} {k : Int} {ns : List Int} (he : e = .Compare l [.In] [r] pos) (x : ∀ l', l' = l → EV w a news l' (Same news (IsI k))) (y : ∀ el, el = elts → IsCs el (ns.map Cst.i)) (hl : ns.length ≤ 100) (hr : r = .List elts lp)
    (hm : behindInMarks .In (.List elts lp) = false := by with_unfolding_all rfl) : EV w a news e (fun v n => v = .bool (ns.any (· == k)) ∧ ∀ p ∈ news, p ∈ n) := by
  subst he
  subst hr
  intro s Q E F N q
  refine wpAny_Compare1 (x l rfl s _ _ F N fun v n h1 tk hv F1 N1 => ?_) hm
  obtain ⟨⟨t, rfl⟩, rfl⟩ := hv
  refine EV.use F1 N1 (EV.listC rfl (y elts rfl) (by rw [List.length_map]; exact hl)) fun v n' h2 tk' hv F2 N2 => ?_
  obtain ⟨ll, vs, rfl, hv, rfl, -⟩ := hv
  exact in_list_ints (News.isList N2 (.head _)) (intsAre_of hv ns rfl) (q _ _ h2 tk' ⟨rfl, fun p hp => .tail _ hp⟩ F2 N2)
theorem EV.shrink {e : Expr} {P : Value → Prop} (x : EV w a news e (fun v n => P v ∧ ∀ p ∈ news, p ∈ n)) : EV w a news e (Same news P) := fun s Q E F N q => x s Q E F N fun v n h' tk p F' N' => q v news h' tk ⟨p.1, rfl⟩ F' (News.sub N' p.2)
theorem TE.neE {l r : Expr} {pos : Pos} {i j : Int} (x : EV w a news l (Same news (IsI i))) (y : EV w a news r (fun v n => IsI j v ∧ ∀ p ∈ news, p ∈ n)) (hm : behindInMarks .NotEq r = false := by with_unfolding_all rfl) : TE w a news (.Compare l [.NotEq] [r] pos) (!(i == j)) := fun s Q E F N q => by
  refine wpAny_isTrue_Compare1 (x s _ _ F N fun v n h1 tk hv F1 N1 => ?_) hm
  obtain ⟨⟨t, rfl⟩, rfl⟩ := hv
  refine y _ _ _ F1 N1 fun v n' h2 tk' hv F2 N2 => ?_
  obtain ⟨⟨t', rfl⟩, hs⟩ := hv
  exact ne_int (wpAny_truthy_bool (q h2 _ F2 (News.sub N2 hs)))
theorem EV.lenD {cn : Str} {cs : Scope} {L f0 : Addr} {ccd : Value} {cl : List (Str × Addr)} {mean : ExcName → Option Value} {mg mb : Str → Option Value} {e : Expr} {np pos : Pos} {d : Addr} {od : Obj} {kvs : List (Str × Value)} (henv : a.env = envX cn cs L f0 ccd cl) (hL : a.L = L) (X : (K0 w.params).In a.g) (T : Top qv (looseW qv looseL) mean mg mb a.g)
    (x : EV w a news e (Same news (· = .ref d))) (hm : (d, od) ∈ news) (hod : od.IsDictOf (strKind pr w) kvs) (lo : (d == sysModules) = false) (hz : (kvs.length : Int) < 2 ^ 63)
    (hk : cs.kind = .function := by rfl) (h1 : (envX cn cs L f0 ccd cl).kindOf "len" = some .globalImplicit := by rfl)
    (he : starEach [e] (envX cn cs L f0 ccd cl) = (false, eval e (envX cn cs L f0 ccd cl)) :: starEach [] (envX cn cs L f0 ccd cl) := by rfl) :
    EV w a news (.Call (.Name "len" np) [e] [] pos) (Same news (IsI (kvs.length : Int))) := by
  subst hL
  intro s Q E F N q
  have x' := x
  unfold EV at x'
  rw [henv] at x' ⊢
  refine wpAny_Call_ofName (nameX_B F X (topRead_of T) (v := .builtin "len") (by kernel_rfl) PyProof.Rows.Boot.«len» (by decide) ?_ hk h1 (by decide))
  refine PyProof.Rows.callWith_builtin1 (spliced_more (x' _ _ _ F N fun v n h2 tk hv F2 N2 => ?_) he) he
  obtain ⟨rfl, rfl⟩ := hv
  refine spliced_none (call_len_dict (s := { s with heap := h2, toks := tk }) (knd := strKind pr w) lo (kda_dict (s := { s with heap := h2, toks := tk }) N2 hm hod) hz ?_)
  exact q _ n h2 _ ⟨⟨_, rfl⟩, rfl⟩ F2 N2
end
noncomputable def aloneL : List Int := [115, 1048691, 270532723, 807403635, 273678451]
section
variable {w : World} {mean : ExcName → Option Value} {mg mb : Str → Option Value} {A₀ : Around} {g : Heap} {L fa : Addr} {cd : Value} {m : Str → Option Value} {dp un : Nat} {gd : Option (List Code)} {pre post n : Led} {md tp cl r : Addr}
theorem l_if {sm : Bool} {rd hi rest : Int} {t1 t2 t3 : Tok} {od : Obj} {kvs : List (Str × Value)} {m1 : Str → Option Value} {e' : Expr} {p1 p2 p3 p4 p5 p6 p7 p8 p9 q1 q2 q3 q4 q5 q6 : Pos} (B : Below A₀ g [] g) (X : (K0 w.params).In g) (T : Top qv (looseW qv looseL) mean mg mb g) (hd : dp + 7 ≤ 900) (hu : un + 140 ≤ 9000)
    (lm1 : LM sm md r rd hi rest t1 t2 t3 m1) (e1 : m1 "alone" = some (.bool (aloneL.any (· == rest + 115)))) (hmd : (md, od) ∈ n) (hod : od.IsDictOf (strKind pr w) kvs) (lo : (md == sysModules) = false) (hcount : sm = false → (kvs.length : Int) = manyF hi rd + (if aloneL.any (· == rest + 115) then 1 else 0)) (hz : (kvs.length : Int) < 2 ^ 63)
    (he : e' = .BoolOp .And [.UnaryOp .Not (.Name "small" p1) p2, .Compare (.Call (.Name "len" p3) [.Name "met" p4] [] p5) [.NotEq] [.BinOp (.Call (.Name "_law_many" p6) [.Name "high" p7, .Name "rd" p8] [] p9) .Add (.Call (.Name "int" q1) [.Name "alone" q2] [] q3) q4] q5] q6) :
    TE w (lAt dp un gd g L fa cd m1) n e' false := by
  have nmI := fun {h : Heap} {m : Str → Option Value} (F : Fr g L h m) (y : Str) (p : Pos) (i : Int) (t : Tok) (e : m y = some (.int i t)) hx hd => PV.nameI (prog := pr) (w := w) (A := lA dp un gd L fa cd) (cn := "law") (cs := scF41) (L := L) (a := fa) (ccd := cd) (cl := [("tape", L + 1)]) (x := y) (pos := p) (i := i) (t := t) F e rfl hx hd
  have nmV := fun {h : Heap} {m : Str → Option Value} (F : Fr g L h m) (y : Str) (p : Pos) (v : Value) (e : m y = some v) hx hd => PV.name (P := (· = v)) (prog := pr) (w := w) (A := lA dp un gd L fa cd) (cn := "law") (cs := scF41) (L := L) (a := fa) (ccd := cd) (cl := [("tape", L + 1)]) (x := y) (pos := p) F e rfl rfl hx hd
  have hb : (!sm && !((kvs.length : Int) == manyF hi rd + (if aloneL.any (· == rest + 115) then 1 else 0))) = false := by
    cases sm with
    | true => rfl
    | false => rw [hcount rfl]; simp
  subst he
  refine (congrArg (TE w (lAt dp un gd g L fa cd m1) n _) hb).mp ?_
  refine .and2 (.tv fun h F N => .not_ (.bool (nmV F "small" _ _ lm1.small rfl (by decide)))) fun _ => ?_
  refine .neE (.lenD (cn := "law") (cs := scF41) (L := L) (f0 := fa) (ccd := cd) (cl := [("tape", L + 1)]) rfl rfl X T (.pv fun h F N => nmV F "met" _ _ lm1.met rfl (by decide)) hmd hod lo hz) ?_
  refine EV.mono (P := Same n (IsI (manyF hi rd + (if aloneL.any (· == rest + 115) then 1 else 0)))) (.bin (i := manyF hi rd) (j := if aloneL.any (· == rest + 115) then 1 else 0) (.shrink ?_) (.pv fun h F N => .intOfB F X T (nmV F "alone" _ _ e1 rfl (by decide))) fun s t u Q E q => add_int (q _ _)) fun v n' hv => ⟨hv.1, fun p hp => hv.2 ▸ hp⟩
  exact EV.call (a := lAt dp un gd g L fa cd m1) (cn := "law") (cs := scF41) (L := L) (f0 := fa) (ccd := cd) (cl := [("tape", L + 1)]) rfl B X T (f := 1122) (d := 1) (Pa := fun vs n' => ∃ t u, vs = [.int hi t, .int rd u] ∧ n' = n) (by kernel_rfl) (by kernel_rfl)
    (.consI (.pv fun h F N => nmI F "high" _ hi t2 lm1.high rfl (by decide)) fun t => .consI (.pv fun h F N => nmI F "rd" _ rd t1 lm1.rd rfl (by decide)) fun u => .nil ⟨t, u, rfl, rfl⟩)
    (fun vs n' h => by
      obtain ⟨t, u, e1, e2⟩ := h
      rw [e1, e2]
      exact many) (by omega) (by omega)
theorem l_tail3 {s : Shared} {Q : Flow → Shared → Prop} {sm : Bool} {rd hi rest kt : Int} {t1 t2 t3 : Tok} {od : Obj} {kvs : List (Str × Value)} {m1 : Str → Option Value} (B : Below A₀ g [] g) (X : (K0 w.params).In g) (T : Top qv (looseW qv looseL) mean mg mb g) (hd : dp + 7 ≤ 900) (hu : un + 140 ≤ 9000)
    (F1 : Fr g L s.heap m1) (N1 : News g L s.heap n) (lm1 : LM sm md r rd hi rest t1 t2 t3 m1) (e1 : m1 "alone" = some (.bool (aloneL.any (· == rest + 115)))) (tf : TF tp cl (L + 1) pre post) (hn : TapeL tp cl pre post kt n) (k0 : 0 ≤ kt) (k1 : kt < 1000) (hr : RowsAt w (pre ++ post) r)
    (hmd : (md, od) ∈ n) (hod : od.IsDictOf (strKind pr w) kvs) (lo : (md == sysModules) = false) (hcount : sm = false → (kvs.length : Int) = manyF hi rd + (if aloneL.any (· == rest + 115) then 1 else 0)) (hz : (kvs.length : Int) < 2 ^ 63)
    (hG1 : ∀ x ∈ lastWords rest, Good x ∧ 0 ≤ x ∧ x < 2 ^ 33) (hG2 : ∀ x, IsLow x → Good (rest + x) ∧ 0 ≤ rest + x ∧ rest + x < 2 ^ 33) {bd : List Stmt} (hbd : bd = stAt bdF41 8 :: stAt bdF41 9 :: bdF41.drop 10)
    (k : ∀ h tk m' n', Fr g L h m' → News g L h n' → Q (.ret (.bool true)) { s with heap := h, toks := tk }) :
    wpAny (model pr w) (lA dp un gd L fa cd) (execs bd (lE L fa cd)) Q (fun _ _ => False) s := by
  have hrn : RowsAt w n r := by
    obtain ⟨o, t, rfl, -⟩ := hn
    exact hr.up mid_up
  obtain ⟨s8, h8⟩ : ∃ s8, s8 = stAt bdF41 8 := ⟨_, rfl⟩
  obtain ⟨s9, h9⟩ : ∃ s9, s9 = stAt bdF41 9 := ⟨_, rfl⟩
  obtain ⟨s10, h10⟩ : ∃ s10, s10 = bdF41.drop 10 := ⟨_, rfl⟩
  rw [← h8, ← h9, ← h10] at hbd
  subst hbd
  refine wpAny_execs_cons (wpAny_mono (l_last1 h8 (s := s) (Q := fun f s' => f = .next ∧ ∃ h tk m', s' = { s with heap := h, toks := tk } ∧ Fr g L h m' ∧ News g L h n ∧ LM sm md r rd hi rest t1 t2 t3 m') B X T hd hu F1 N1 lm1 hrn hG1 fun h tk m' F' N' lm' => ⟨rfl, h, tk, m', rfl, F', N', lm'⟩) (fun f s' hf => ?_) fun _ _ z => z.elim)
  obtain ⟨rfl, h3, tk3, m3, rfl, F3, N3, lm3⟩ := hf
  refine wpAny_execs_cons (wpAny_mono (l_last2 h9 (s := { s with heap := h3, toks := tk3 }) (Q := fun f s' => f = .next ∧ ∃ h tk m' n', s' = { s with heap := h, toks := tk } ∧ Fr g L h m' ∧ News g L h n') B X T hd hu F3 N3 lm3 tf hn k0 k1 hr hG2 fun h tk m' n' F' N' => ⟨rfl, h, tk, m', n', rfl, F', N'⟩) (fun f s' hf => ?_) fun _ _ z => z.elim)
  obtain ⟨rfl, h4, tk4, m4, n4, rfl, F4, N4⟩ := hf
  rw [h10]
  refine wpAny_execs_cons (wpAny_Return_some (wpAny_Constant_bool ?_))
  exact k h4 _ m4 n4 F4 N4
theorem l_tail2 {s : Shared} {Q : Flow → Shared → Prop} {sm : Bool} {rd hi rest kt : Int} {t1 t2 t3 : Tok} {od : Obj} {kvs : List (Str × Value)} {m1 : Str → Option Value} {bd : List Stmt} (B : Below A₀ g [] g) (X : (K0 w.params).In g) (T : Top qv (looseW qv looseL) mean mg mb g) (hd : dp + 7 ≤ 900) (hu : un + 140 ≤ 9000)
    (F1 : Fr g L s.heap m1) (N1 : News g L s.heap n) (lm1 : LM sm md r rd hi rest t1 t2 t3 m1) (e1 : m1 "alone" = some (.bool (aloneL.any (· == rest + 115)))) (tf : TF tp cl (L + 1) pre post) (hn : TapeL tp cl pre post kt n) (k0 : 0 ≤ kt) (k1 : kt < 1000) (hr : RowsAt w (pre ++ post) r)
    (hmd : (md, od) ∈ n) (hod : od.IsDictOf (strKind pr w) kvs) (lo : (md == sysModules) = false) (hcount : sm = false → (kvs.length : Int) = manyF hi rd + (if aloneL.any (· == rest + 115) then 1 else 0)) (hz : (kvs.length : Int) < 2 ^ 63)
    (hG1 : ∀ x ∈ lastWords rest, Good x ∧ 0 ≤ x ∧ x < 2 ^ 33) (hG2 : ∀ x, IsLow x → Good (rest + x) ∧ 0 ≤ rest + x ∧ rest + x < 2 ^ 33) (hbd : bd = bdF41.drop 7)
    (k : ∀ h tk m' n', Fr g L h m' → News g L h n' → Q (.ret (.bool true)) { s with heap := h, toks := tk }) :
    wpAny (model pr w) (lA dp un gd L fa cd) (execs bd (lE L fa cd)) Q (fun _ _ => False) s := by
  refine st_ifV (a := lAt dp un gd g L fa cd m1) (b := false) rfl (hbd.trans rfl) F1 N1 (fun e' he => l_if B X T hd hu lm1 e1 hmd hod lo hcount hz he) (fun z => by cases z) ?_
  intro _ h2 tk2 bd2 hb2 F2 N2
  exact l_tail3 (s := { s with heap := h2, toks := tk2 }) B X T hd hu F2 N2 lm1 e1 tf hn k0 k1 hr hmd hod lo hcount hz hG1 hG2 hb2 k
theorem l_tail {s : Shared} {Q : Flow → Shared → Prop} {sm : Bool} {rd hi rest kt : Int} {t1 t2 t3 : Tok} {od : Obj} {kvs : List (Str × Value)} (B : Below A₀ g [] g) (X : (K0 w.params).In g) (T : Top qv (looseW qv looseL) mean mg mb g) (hd : dp + 7 ≤ 900) (hu : un + 140 ≤ 9000)
    (F : Fr g L s.heap m) (N : News g L s.heap n) (lm : LM sm md r rd hi rest t1 t2 t3 m) (tf : TF tp cl (L + 1) pre post) (hn : TapeL tp cl pre post kt n) (k0 : 0 ≤ kt) (k1 : kt < 1000) (hr : RowsAt w (pre ++ post) r)
    (hmd : (md, od) ∈ n) (hod : od.IsDictOf (strKind pr w) kvs) (lo : (md == sysModules) = false) (hcount : sm = false → (kvs.length : Int) = manyF hi rd + (if aloneL.any (· == rest + 115) then 1 else 0)) (hz : (kvs.length : Int) < 2 ^ 63)
    (hG1 : ∀ x ∈ lastWords rest, Good x ∧ 0 ≤ x ∧ x < 2 ^ 33) (hG2 : ∀ x, IsLow x → Good (rest + x) ∧ 0 ≤ rest + x ∧ rest + x < 2 ^ 33)
    (k : ∀ h tk m' n', Fr g L h m' → News g L h n' → Q (.ret (.bool true)) { s with heap := h, toks := tk }) :
    wpAny (model pr w) (lA dp un gd L fa cd) (execs (bdF41.drop 6) (lE L fa cd)) Q (fun _ _ => False) s := by
  have nmI := fun {h : Heap} {m : Str → Option Value} (F : Fr g L h m) (y : Str) (p : Pos) (i : Int) (t : Tok) (e : m y = some (.int i t)) hx hd => PV.nameI (prog := pr) (w := w) (A := lA dp un gd L fa cd) (cn := "law") (cs := scF41) (L := L) (a := fa) (ccd := cd) (cl := [("tape", L + 1)]) (x := y) (pos := p) (i := i) (t := t) F e rfl hx hd
  have nmV := fun {h : Heap} {m : Str → Option Value} (F : Fr g L h m) (y : Str) (p : Pos) (v : Value) (e : m y = some v) hx hd => PV.name (P := (· = v)) (prog := pr) (w := w) (A := lA dp un gd L fa cd) (cn := "law") (cs := scF41) (L := L) (a := fa) (ccd := cd) (cl := [("tape", L + 1)]) (x := y) (pos := p) F e rfl rfl hx hd
  obtain ⟨bd, hbd⟩ : ∃ bd, bd = bdF41.drop 6 := ⟨_, rfl⟩
  rw [← hbd]
  refine st_assignV (a := lAt dp un gd g L fa cd m) (x := "alone") (P := fun v n' => v = .bool (aloneL.any (· == rest + 115)) ∧ ∀ p ∈ n, p ∈ n') rfl rfl (hbd.trans rfl) F N (fun e' he => EV.inListI (ns := aloneL) he (fun l' hl => hl ▸ .pv fun h F N => .add (nmI F "rest" _ rest t3 lm.rest rfl (by decide)) (.const 115 _ _)) (fun el hel => hel ▸ .cons (.i _ _ _) (.cons (.i _ _ _) (.cons (.i _ _ _) (.cons (.i _ _ _) (.cons (.i _ _ _) .nil))))) (by decide) rfl) ?_
  intro v n1 h1 tk1 bd1 hb1 hv F1 N1
  obtain ⟨rfl, hs1⟩ := hv
  have N1 := News.sub N1 hs1
  generalize hm1 : (fun y : Str => if y = "alone" then some (Value.bool (aloneL.any (· == rest + 115))) else m y) = m1 at F1
  have lm1 : LM sm md r rd hi rest t1 t2 t3 m1 := by rw [← hm1]; exact ⟨lm.small, lm.met, lm.rows, lm.rd, lm.high, lm.rest⟩
  have e1 : m1 "alone" = some (.bool (aloneL.any (· == rest + 115))) := by rw [← hm1]; rfl
  exact l_tail2 (s := { s with heap := h1, toks := tk1 }) B X T hd hu F1 N1 lm1 e1 tf hn k0 k1 hr hmd hod lo hcount hz hG1 hG2 hb1 k
end
end Mine
end
section
open PySem PySem.W PyProof.Rows PySem.Calls
set_option maxHeartbeats 3200000
namespace Mine
theorem sub_AE : isSubtype (.type "AttributeError") (.type "AttributeError") = pure true := by rw [isSubtype_type]; kernel_rfl
theorem getAttrQ_list {prog : Program} {w : World} {A : Around} {E : Value → Shared → Prop} {s : Shared} {a : Addr} {o : Obj} {xs : Array Value} {k : Nat} {name : Str} {Q : Option Value → Shared → Prop}
    (hx : s.heap.get? a = some o) (hc : o.cls = .type "list") (hdat : o.data = .seq xs k) (hd : o.dict = none) (hmiss : typeLookup (.type "list") name = pure none) (hname : (["__module__", "__name__", "__qualname__", "__doc__", "__annotations__"] : List Str).contains name = false) (hA : A.handled = none)
    (h : ∀ h' tk, (∀ b ob, s.heap.get? b = some ob → h'.get? b = some ob) → Q none { s with heap := h', toks := tk }) (hsz : name.length + 100 ≤ sizeLine := by size_fits) :
    wpAny (model prog w) A (getAttr? (.ref a) name) Q E s := by
  obtain ⟨c, dct, dat, sl⟩ := o
  simp only at hc hdat hd
  subst hc hdat hd
  obtain ⟨hp, g, d, tk, os⟩ := s
  have hT : ∀ tk', (⟨hp, g, d, tk', os⟩ : Shared).TypeIs (.ref a) "list" := fun _ => ⟨_, hx, rfl⟩
  have f1 := sub_AE
  have f3 := PySem.F.slot_list_getattribute.lookup
  have f4 := PySem.F.slot_list_getattribute.bind (.ref a)
  have f5 := am_list_getattr_none
  unfold getAttr? getAttrBy?
  refine wpAny_bind (wpAny_mkText (wpAny_bind (wpAny_attempt ?_)))
  unfold getAttrBy
  repeat (any_goals (first | assumption | exact hT _ | ((with_reducible show wpAny _ _ (call (Value.builtin "list.__getattribute__") _ _) _ _ _); refine call_meets PySem.F.slot_list_getattribute (hT _) am_entry_list_getattribute (PySem.F.args_list_getattribute_2 _ _) (meets_getattribute_miss_list a xs k sl name _ hmiss hname hsz) ⟨hx, hA, fun h' tk' e hx' => ?_⟩) | wp_step))
  obtain ⟨t', u', he⟩ := hx'.there
  show wpAny _ _ (getattributeRaised _ _ _ _ _ _ _) _ _ _
  unfold getattributeRaised
  repeat (any_goals (first | assumption | wp_step))
  exact h _ _ hx'.keeps
theorem entry_dul : entryFor table "dict.update.loop" = some Builtin.«dict.update.loop» := entryFor_of_tree (by kernel_rfl)
theorem plain_dul : plainId "dict.update.loop" = true := by decide +kernel
theorem lk_list_keys : typeLookup (.type "list") "keys" = pure none := am_miss_of_fast (by decide +kernel)
noncomputable def IsP2 (o : Obj) (k : Int) (v : Value) : Prop := ∃ t n, o.cls = .type "tuple" ∧ o.data = .seq #[.int k t, v] n
theorem wpAny_pairItems_tup {prog : Program} {w : World} {A : Around} {E : Value → Shared → Prop} {s : Shared} {a : Addr} {o : Obj} {k : Int} {v : Value} {Q : List Value → Shared → Prop} (hx : s.heap.get? a = some o) (ho : IsP2 o k v)
    (h : ∀ t, Q [.int k t, v] s) : wpAny (model prog w) A (Builtin.Dict.pairItems (.ref a)) Q E s := by
  obtain ⟨c, dct, dat, sl⟩ := o
  obtain ⟨t, n, hc, hd⟩ := ho
  simp only at hc hd
  subst hc hd
  have hT : s.TypeIs (.ref a) "tuple" := ⟨_, hx, rfl⟩
  unfold Builtin.Dict.pairItems
  repeat (any_goals (first | assumption | wp_step))
  exact h t
section
variable {prog : Program} {w : World} {A : Around} {R : Result → Shared → Prop} {I : Addr} {fp wr : List Addr} {n : Nat} {P : Nat → Value → Prop} {St : Nat → Heap → Prop}
theorem codeAny_dul (W : Walks prog w A.in1 I fp wr n P St) (S : Addr) (hSf : S ∉ fp) (key : Nat → Int) (val : Nat → Value) (Tp : List (Addr × Obj)) (hTS : ∀ p ∈ Tp, p.1 ≠ S) (hTw : ∀ p ∈ Tp, p.1 ∉ wr)
    (hval : ∀ i v, P i v → ∃ a o, v = .ref a ∧ (a, o) ∈ Tp ∧ IsP2 o (key i) (val i)) (hn : n ≤ 1000) :
    ∀ (k i : Nat) (s : Shared) (kvs : List (Int × Value)), n - i = k → i ≤ n → kvs.length ≤ i → St i s.heap → (∀ p ∈ Tp, s.heap.get? p.1 = some p.2) → s.heap.DictOf (intKind prog w) S kvs →
      (∀ h' tk, (∀ b o, b ∉ S :: wr → s.heap.get? b = some o → h'.get? b = some o) → h'.DictOf (intKind prog w) S (((List.range' i (n - i)).map fun j => (key j, val j)).foldl (fun kv p => stored kv p.1 p.2) kvs) → R (.ok (.ret .none)) { s with heap := h', toks := tk }) →
      codeAny (model prog w) A (.builtin "dict.update.loop" ⟨[.ref S, .ref I, rawInt i, .none], []⟩) R s := by
  have hSw : S ∉ wr := fun h => hSf (W.sub _ h)
  have hsub : ∀ b ∈ wr, b ∈ S :: wr := fun b hb => List.mem_cons_of_mem _ hb
  intro k
  induction k with
  | zero =>
    intro i s kvs hk hi hkl hst hT hS hR
    have hin : i = n := by omega
    subst hin
    refine codeAny_builtin entry_dul ?_
    rw [Around.under_plainId plain_dul _]
    show wpAny _ A.in1 (pyNext (.ref I) >>= _) _ _ s
    refine wpAny_bind (W.done s _ _ hst fun h' tk hm => ?_)
    show wpAny _ A.in1 (Builtin.Dict.addKeywords S [] >>= fun _ => ret Value.none) _ _ _
    refine wpAny_bind (wpAny_pure (wpAny_pure (hR h' tk (fun b o hb e => hm b o (fun z => hb (hsub _ z)) e) ?_)))
    obtain ⟨o, ho, hd⟩ := Heap.dictOf_iff.mp hS
    rw [Nat.sub_self]
    exact Heap.dictOf_iff.mpr ⟨o, hm S _ hSw ho, hd⟩
  | succ k ih =>
    intro i s kvs hk hi hkl hst hT hS hR
    have hlt : i < n := by omega
    refine codeAny_builtin entry_dul ?_
    rw [Around.under_plainId plain_dul _]
    show wpAny _ A.in1 (pyNext (.ref I) >>= _) _ _ s
    refine wpAny_bind (W.item i s _ _ hlt hst fun v h' tk hP hst' hm => ?_)
    obtain ⟨ta, to, rfl, hmem, hp2⟩ := hval i v hP
    have hS' : h'.DictOf (intKind prog w) S kvs := by
      obtain ⟨o, ho, hd⟩ := Heap.dictOf_iff.mp hS
      exact Heap.dictOf_iff.mpr ⟨o, hm S _ hSw ho, hd⟩
    have hT' : ∀ p ∈ Tp, h'.get? p.1 = some p.2 := fun p hp => hm _ _ (hTw p hp) (hT p hp)
    refine wpAny_bind (wpAny_holding (wpAny_bind (wpAny_tryCatch (wpAny_pairItems_tup (s := { s with heap := h', toks := tk }) (hT' _ hmem) hp2 fun t => ?_))))
    have hszl : kvs.length ≤ sizeLine := Nat.le_trans (show kvs.length ≤ 1000 by omega) (by decide)
    refine wpAny_holding (wpAny_dictSet_pairs (s := { s with heap := h', toks := tk }) (knd := intKind prog w) (k := key i) (intKind_is _ _ _ _) hS' (fun h2 hd2 hs2 => ?_) hszl)
    refine wpAny_pure ⟨plainId_quiet plain_dul _, ?_⟩
    have hl := (by unfold stored; split <;> simp : (stored kvs (key i) (val i)).length ≤ kvs.length + 1)
    refine ih (i + 1) _ _ (by omega) hlt (by omega) (W.frame _ h' _ hst' fun b hb o e => ?_) (fun p hp => ?_) hd2 fun h3 tk3 hm3 hd3 => ?_
    · rw [hs2.2 b (fun h : b = S => hSf (by rw [← h]; exact hb))]; exact e
    · rw [show ({ s with heap := h2, toks := tk + 1 } : Shared).heap = h2 from rfl, hs2.2 p.1 (hTS p hp)]
      exact hT' p hp
    · refine hR h3 tk3 (fun b o hb e => hm3 b o hb ?_) ?_
      · show h2.get? b = some o
        rw [hs2.2 b (fun h : b = S => hb (by rw [h]; exact List.mem_cons_self))]
        exact hm b o (fun z => hb (hsub _ z)) e
      · rw [show n - i = (n - (i + 1)) + 1 by omega, List.range'_succ, List.map_cons, List.foldl_cons]
        exact hd3
end
theorem call_dict_pairs {prog : Program} {w : World} {A : Around} {E : Value → Shared → Prop} {s : Shared} {l : Addr} {o : Obj} {items : Array Value} {nn : Nat} {Q : Value → Shared → Prop} (hh : A.handled = none) (hx : s.heap.get? l = some o) (hc : o.cls = .type "list") (hdat : o.data = .seq items nn) (hd : o.dict = none)
    (key : Nat → Int) (val : Nat → Value) (Tp : List (Addr × Obj)) (hT : ∀ p ∈ Tp, s.heap.get? p.1 = some p.2) (hval : ∀ i v, items[i]? = some v → ∃ a o, v = .ref a ∧ (a, o) ∈ Tp ∧ IsP2 o (key i) (val i)) (hn : items.size ≤ 1000)
    (k : ∀ h' tk, (∀ b o, s.heap.get? b = some o → h'.get? b = some o) → h'.DictOf (intKind prog w) s.heap.objs.size (((List.range' 0 items.size).map fun j => (key j, val j)).foldl (fun kv p => stored kv p.1 p.2) []) → Q (.ref s.heap.objs.size) { s with heap := h', toks := tk }) :
    wpAny (model prog w) A (call (.type "dict") [.ref l]) Q E s := by
  refine callType_codes (Q₁ := fun obj s₁ => obj = .ref s.heap.objs.size ∧ s₁ = { s with heap := s.heap.push { cls := .type "dict", data := .dict #[] } }) PySem.F.kt_called_dict (PySem.F.kt_typeCall_dict_1 _) PySem.F.entry_dict_init (kt_code_dict_new _ ⟨rfl, rfl⟩) ?_
  rintro obj s₁ ⟨rfl, rfl⟩
  have hnew : (s.heap.push { cls := .type "dict", data := .dict #[] }).DictOf (intKind prog w) s.heap.objs.size [] := Heap.DictOf.new s.heap
  have hx1 : (s.heap.push { cls := .type "dict", data := .dict #[] }).get? l = some o := Heap.get?_push_of_some _ hx
  have hlS : l < s.heap.objs.size := Heap.lt_size hx
  refine ⟨hnew.typeIs, PySem.F.args_dict_init_2 _ _, ?_⟩
  unfold Builtin.«dict.__init__»
  refine wpAny_bind ?_
  unfold Builtin.Dict.selfAndRest
  refine wpAny_bind (wpAny_notOrdered_dict hnew.typeIs ?_)
  show wpAny _ _ (pure (s.heap.objs.size, [Value.ref l])) _ _ _
  refine wpAny_pure ?_
  show wpAny _ _ (Builtin.Dict.updateFrom "dict.__init__" s.heap.objs.size (.ref l) [] .none) _ _ _
  unfold Builtin.Dict.updateFrom
  have hTl : Shared.TypeIs { s with heap := s.heap.push { cls := .type "dict", data := .dict #[] } } (.ref l) "list" := ⟨_, hx1, hc⟩
  refine wpAny_bind (wpAny_typeOf hTl ?_)
  rw [if_pos (by decide)]
  refine wpAny_bind (getAttrQ_list (s := { s with heap := s.heap.push { cls := .type "dict", data := .dict #[] } }) hx1 hc hdat hd lk_list_keys (by decide) (by simp [hh]) (fun h2 tk2 hk2 => ?_) (by decide))
  rw [if_pos (by rfl)]
  have hl2 : h2.IsList l items := ⟨o, hk2 _ _ hx1, hc, nn, hdat⟩
  have hd2 : h2.DictOf (intKind prog w) s.heap.objs.size [] := by
    obtain ⟨o, ho, hd⟩ := Heap.dictOf_iff.mp hnew
    exact Heap.dictOf_iff.mpr ⟨o, hk2 _ _ ho, hd⟩
  have hS2 : s.heap.objs.size < h2.objs.size := by
    obtain ⟨o, ho, -⟩ := Heap.dictOf_iff.mp hd2
    exact Heap.lt_size ho
  have hT2 : ∀ p ∈ Tp, h2.get? p.1 = some p.2 := fun p hp => hk2 _ _ (Heap.get?_push_of_some _ (hT p hp))
  refine wpAny_bind (wpAny_rule (wpAny_bind (wpAny_pyIter_list hl2 (wpAny_pure ⟨plainId_quiet plain_dul _, ?_⟩))))
  have hne : l ≠ h2.objs.size := Nat.ne_of_lt (Nat.lt_trans hlS hS2)
  refine codeAny_dul (n := items.size) (Walks.list (by simp [hh]) h2.objs.size l hne items) s.heap.objs.size ?_ key val Tp (fun p hp => Nat.ne_of_lt (Heap.lt_size (hT p hp))) (fun p hp z => ?_) (fun i v hv => hval i v hv) hn (items.size - 0) 0 _ [] rfl (Nat.zero_le _) (Nat.le_refl _) ⟨⟨_, Heap.get?_push_size _ rfl, rfl, rfl⟩, hl2.push _⟩ (fun p hp => Heap.get?_push_of_some _ (hT2 p hp)) ?_ fun h3 tk3 hm3 hd3 => ⟨rfl, k h3 tk3 (fun b ob hb => ?_) hd3⟩
  · simp only [List.mem_cons, List.not_mem_nil, or_false, not_or]
    exact ⟨Nat.ne_of_lt hS2, Nat.ne_of_gt hlS⟩
  · have e := List.mem_singleton.mp z
    exact absurd (Heap.lt_size (hT2 p hp)) (by rw [e]; exact Nat.lt_irrefl _)
  · obtain ⟨o, ho, hd⟩ := Heap.dictOf_iff.mp hd2
    exact Heap.dictOf_iff.mpr ⟨o, Heap.get?_push_of_some _ ho, hd⟩
  · have hb' : h2.get? b = some ob := hk2 _ _ (Heap.get?_push_of_some _ hb)
    refine hm3 b ob ?_ (Heap.get?_push_of_some _ hb')
    simp only [List.mem_cons, List.not_mem_nil, or_false, not_or]
    exact ⟨Nat.ne_of_lt (Heap.lt_size hb), Nat.ne_of_lt (Heap.lt_size hb')⟩
end Mine
end
section
open PySem PySem.W PyProof.Rows PySem.Calls PyProof.V PySem.Spec PyProof.Rows.LCg
set_option maxHeartbeats 2000000
namespace Mine
theorem ListComp_D {K : Type} [DecidableEq K] {w : World} {knd : KeyKind pr w K} {A : Around} {E : Value → Shared → Prop} {s : Shared} {h₀ : Heap} {L : Addr} {m : Str → Option Value} {env : Env} {elt iter : Expr} {x : Str} {px : Pos} {scope : Scope} {cl : List (Str × Addr)} {pos : Pos} {Q : Value → Shared → Prop} (hh : A.handled = none)
    (hclos : closureFor scope env = pure cl) (hcell : ∀ y ∈ scope.names, y.2 ≠ .cell) (hkind : scope.kind = .function)
    (hnames : ∀ y ∈ scope.names, y.2 = .local → scope.names.lookup y.1 = some .local) (hx : scope.names.lookup x = some .local)
    (h : wpAny (model pr w) A (eval iter env) (fun xv s₁ => ∃ d od kvs news, xv = .ref d ∧ Fr h₀ L s₁.heap m ∧ News h₀ L s₁.heap news ∧ (d, od) ∈ news ∧ od.IsDictOf knd kvs ∧ (d == sysModules) = false ∧ kvs.length ≤ sizeLine ∧
      ∀ s₂ : Shared, (∃ h, s₂ = { s₁ with heap := h }) → CompRest pr w A h₀ L m env elt x scope cl s₂ (fun n => (d, od) ∈ n) (fun i v => ∃ k x, kvs[i]? = some (k, x) ∧ knd.is k v = true) (FinE h₀ L m s₂ Q) kvs.length 0 [] news) E s)
    (hs : ∀ x, foldedSetIterable iter env x = pure x := by intro _; rfl) :
    wpAny (model pr w) A (eval (.ListComp elt [⟨.Name x px, iter, [], 0⟩] scope pos) env) Q E s := by
  rw [eval_ListComp]
  refine wpAny_comprehension_free (use := none) rfl hs hclos hkind hnames (wpAny_mono h (fun xv s₁ h₁ => ?_) fun _ _ e => e)
  obtain ⟨d, od, kvs, news, rfl, F, N, hm, hod, lo, hsz, R⟩ := h₁
  obtain ⟨es, ep, hex, hdat, hk, hp, hnd⟩ := hod
  have hlt : d < s₁.heap.objs.size := Heap.lt_size (N.get hm)
  have da : ∀ hp : Heap, hp.get? d = some od → hp.DictAt knd d kvs ep := fun hp e => ⟨od, es, e, hex, hdat, hk, ‹_›, hnd⟩
  refine wpAny_pyIter_dict lo (da _ (N.get hm)) ?_
  have up : ∀ b o, s₁.heap.get? b = some o → (s₁.heap.push { cls := .type "dict_keyiterator", data := .fields #[.ref d, .int 0 0, .int kvs.length 0, .int ep 0] }).get? b = some o := fun b o e => Heap.get?_push_of_some _ e
  refine block_U (S := fun n => (d, od) ∈ n) (Walks.dictKeys hh s₁.heap.objs.size d (Nat.ne_of_lt hlt) kvs ep) hsz (fun i h st => by obtain ⟨o, e, _⟩ := st.1; exact ⟨o, e⟩) (fun i h h' o nw st e e' k N' hS => ⟨by obtain ⟨o', q, r⟩ := st.1; rw [e] at q; cases q; exact ⟨o, e', r⟩, da _ (N'.get hS)⟩) hcell hkind hx ⟨⟨_, Heap.get?_push_size _ rfl, rfl, rfl⟩, (da _ (N.get hm)).push _⟩ (fun b hb => ?_)
    (F.keeps up) (N.grown up) (Nat.ne_of_lt F.ns.lt) (next_is_new F) (fun p hp => Nat.ne_of_lt (Heap.lt_size (N p hp).1)) hm (R _ ⟨_, rfl⟩) ?_
  · show b < (s₁.heap.push _).objs.size
    rw [Heap.size_push]
    rcases List.mem_cons.mp hb with rfl | hb
    · exact Nat.lt_succ_self _
    · rw [List.mem_singleton.mp hb]; exact Nat.lt_succ_of_lt hlt
  · intro D C h tk m' ys news' F' N' o1 hn hC₀ hD₀ hCL hDL hCD offC fin
    refine ⟨m', hn, fun h'' hs'' => fin D h'' tk (F'.change hs'' hCL hC₀) (fun p hp => ?_) o1⟩
    refine ⟨hs''.extBut _ _ ?_ (N' p hp).1, (N' p hp).2⟩
    rcases List.mem_cons.mp hp with rfl | hp
    · exact Ne.symm hCD
    · exact offC p hp
theorem Call.ofC {w : World} {mean : ExcName → Option Value} {mg mb : Str → Option Value} {f : Addr} {d : Nat} {news : Led} {P : Value → Led → Prop} {x : Str}
    {name qual : Str} {ps : Arguments} {bd : List Stmt} {sc : Scope} {dV kV doc pm cdv ct oc : Value} {an od : Option Addr} {osl : Array (Option Value)}
    (ho : (K0 w.params).lookup f = some ⟨oc, od, .func (fnOf name qual ps bd sc dV kV doc pm an cdv ct), osl⟩) (hcd : codeIn (K0 w.params) cdv qual = true)
    (hbind : bindArgs (fnOf name qual ps bd sc dV kV doc pm an cdv ct) ⟨[], []⟩ = pure [])
    (hcl : ∀ n, cellsFrom n sc.names [] = [(x, n)])
    (body : ∀ (dp un : Nat) (gd : Option (List Code)) (outer : List Env) (A₀ : Around) (base g : Heap) (L : Addr) (oc : Obj) (v0 : Option Value) (s : Shared) (Q : Flow → Shared → Prop) (E : Value → Shared → Prop),
      Sit w mean mg mb A₀ base outer g L (fun _ => none) ((L + 1, oc) :: news) s.heap → oc.data = .cell v0 → (∀ p ∈ news, p.1 < L) → dp + d ≤ 900 → un + 20 * d ≤ 9000 →
      (∀ r m' news' h' tk', P r news' → Fr g L h' m' → News g L h' news' → Q (.ret r) { s with heap := h', toks := tk' }) →
      wpAny (model pr w) (ktrTop dp un gd qual sc L f cdv [(x, L + 1)] outer) (execs bd (envX qual sc L f cdv [(x, L + 1)])) Q E s)
    (hco : sc.isCoroutine = false := by rfl) (hgen : sc.isGenerator = false := by rfl) (hks : sc.kind = .function := by rfl) : Call w mean mg mb f (d + 1) [] news P := by
  intro dp un gd cn cs a ccd cl outer A₀ base g L m s Q E S hk hd hu ret
  have hnd : ((cellsFrom 0 sc.names []).map (·.1)).Nodup := by rw [hcl]; simp
  refine wpAny_call (code_defC S.B S.F S.X S.N S.T rfl rfl hk ho hcd (by show dp < recursionLimit; simp only [recursionLimit]; omega) (BindsTo.of_eq hbind) rfl hnd (fun g' L' h₁ tk cells FG F' N' Y B' X' T' lt => ?_) hco hgen hks)
  rw [hcl] at Y
  obtain ⟨o, rfl, hdat⟩ := CellsAre.one Y
  have he : envOfC qual sc L' f cdv = envX qual sc L' f cdv [(x, L' + 1)] := by
    show envX qual sc L' f cdv (cellsFrom (L' + 1) sc.names []) = _
    rw [hcl]
  have hbl : bindL (envOfC qual sc L' f cdv).kindOf [] (fun _ => none) = fun _ => none := rfl
  rw [hbl] at F'
  rw [he]
  have key := body (dp + 1) (un + 3) gd (envX cn cs L a ccd cl :: outer) _ base g' L' o _ { s with heap := h₁, toks := tk } (fun fl s' => LeaveK g L m g' (fun r s' => match r with | .ok (.ret v) => Q v s' | .ok _ => False | .error e => E e s') (match fl with | .ret v => v | _ => .none) s')
    (fun e s' => wpAny (model pr w) (ktrTop (dp + 1) (un + 3) gd qual sc L' f cdv [(x, L' + 1)] (envX cn cs L a ccd cl :: outer)) (leaving (envX qual sc L' f cdv [(x, L' + 1)]) e) (fun _ s'' => E e s'') (fun e' s'' => E e' s'') s')
    ⟨B', F', X', N', T'⟩ hdat lt (by omega) (by omega) fun r m' news' h' tk' hp F2 N2 => ⟨L', m', news', F2, N2, fun F3 N3 => ret _ news' _ _ hp F3 N3⟩
  exact key
section
variable {w : World} {a : At} {news : Led}
theorem EV.compName {scope : Scope} {cl : List (Str × Addr)} {C : Addr} {env : Env} {m₂ : Str → Option Value} {x : Str} {p : Pos} {v : Value} {oC : Obj} (henv : a.env = compEnvC scope cl C env) (hN : NsObj oC m₂) (hC : (C, oC) ∈ news) (hv : m₂ x = some v) (hk : scope.kind = .function) (hx : (compEnvC scope cl C env).kindOf x = some .local) (hd : (x == ("__debug__" : Str)) = false := by decide) :
    EV w a news (.Name x p) (Same news (· = v)) := .pv fun h F N => by
  rw [henv]
  exact .compName (P := (· = v)) (hN.ns (N.get hC)) hv rfl hk hx hd
theorem EV.compCell {scope : Scope} {cl : List (Str × Addr)} {C c : Addr} {env : Env} {x : Str} {p : Pos} {v : Value} {o : Obj} (henv : a.env = compEnvC scope cl C env) (hc : cl.lookup x = some c) (hm : (c, o) ∈ news) (hd : o.data = .cell (some v))
    (hk : (compEnvC scope cl C env).scope.kind = .function) (hx : (compEnvC scope cl C env).kindOf x = some .cell) (hb : (x == ("__debug__" : Str)) = false := by decide) : EV w a news (.Name x p) (Same news (· = v)) := fun s Q E F N q => by
  rw [henv]
  exact lcf_cell N hc hm hd (q v news s.heap s.toks ⟨rfl, rfl⟩ F N) hk hx hb
theorem EV.callU {scope : Scope} {ccl cl : List (Str × Addr)} {C : Addr} {cn : Str} {cs : Scope} {L f0 : Addr} {ccd : Value} {mean : ExcName → Option Value} {mg mb : Str → Option Value} {A₀ : Around} {base : Heap} {outer : List Env} {dp un : Nat} {gd : Option (List Code)}
    {x : Str} {np pos : Pos} {e0 : Expr} {es : List Expr} {f : Addr} {d : Nat} {Pa : List Value → Led → Prop} {P : Value → Led → Prop} {env : Env}
    (ha : a = ⟨ktrTop dp un gd cn cs L f0 ccd cl outer, compEnvC scope ccl C env, a.g, L, a.m⟩) (hgl : env.globals = mainGlobals) (B : Below A₀ base outer a.g) (X : (K0 w.params).In a.g) (T : Top qv (looseW qv looseL) mean mg mb a.g)
    (hf : nsIn (K0 w.params) mainGlobals x = some (some (.ref f))) (hkeep : keepIn (K0 w.params) (.ref f) = true)
    (args : EVs w a news (e0 :: es) Pa) (C' : ∀ vs n, Pa vs n → Call w mean mg mb f d vs n P) (hd : dp + d ≤ 900) (hu : un + 20 * d ≤ 9000)
    (hk : cs.kind = .function) (hks : (compEnvC scope ccl C env).scope.kind = .function) (hx : (compEnvC scope ccl C env).kindOf x = some .globalImplicit) (hdb : (x == ("__debug__" : Str)) = false := by decide)
    (he : starEach (e0 :: es) (compEnvC scope ccl C env) = (false, eval e0 (compEnvC scope ccl C env)) :: starEach es (compEnvC scope ccl C env) := by rfl) (hplain : (backTo pos (starEach es (compEnvC scope ccl C env))).any (·.1) = false := by rfl) :
    EV w a news (.Call (.Name x np) (e0 :: es) [] pos) P := by
  obtain ⟨aA, aenv, ag, aL, am⟩ := a
  obtain ⟨rfl, rfl, -, rfl, -⟩ := At.mk.inj ha
  intro s Q E F N q
  have TR := topRead_of T
  refine wpAny_Call_ofName (Name_function_global hks hx (loadGlobal_global (mg := mg) (by show Heap.Ns _ env.globals _; rw [hgl]; exact TR.g.keeps F.keep) (mg_of X TR.g hf) ?_) hdb)
  refine callWith_K (h₀ := ag) X hkeep ?_ he hplain
  refine args pos s _ _ F N fun vs n h' tk hp F' N' => ⟨X.keeps F'.keep, ?_⟩
  exact C' vs n hp _ _ _ _ _ _ _ _ _ _ _ _ _ _ _ _ _ ⟨B, F', X, N', T⟩ hk hd hu fun r n' h'' tk' hr F'' N'' => q r n' h'' tk' hr F'' N''
theorem EV.itemD {value slice : Expr} {pos : Pos} {k : Int} {v : Value} {d : Addr} {od : Obj} {kvs : List (Int × Value)} (x : EV w a news value (Same news (· = .ref d))) (y : EV w a news slice (Same news (IsI k))) (hm : (d, od) ∈ news) (hod : od.IsDictOf (intKind pr w) kvs) (hv : valueAt kvs k = some v)
    (hs : ∀ t, subscripted slice false (.ref d) (.int k t) = operate [.ref d, .int k t] (getItem (.ref d) (.int k t)) := by intro _; with_unfolding_all rfl) (hg : ∀ r, letTemporaryGo value (.ref d) r = pure () := by intro _; with_unfolding_all rfl) :
    EV w a news (.Subscript value slice pos) (Same news (· = v)) := by
  intro s Q E F N q
  refine Subscript_ (x s _ _ F N fun u n h1 tk hu F1 N1 => ?_)
  obtain ⟨rfl, rfl⟩ := hu
  refine y _ _ _ F1 N1 fun i n' h2 tk' hi F2 N2 => ?_
  obtain ⟨⟨t, rfl⟩, rfl⟩ := hi
  exact kda_item (s := { s with heap := h2, toks := tk' }) (knd := intKind pr w) (k := k) N2 hm hod (intKind_is _ _ _ _) hv (q v n' h2 _ ⟨rfl, rfl⟩ F2 N2) (hs t) hg
theorem EV.tup2 {e1 e2 : Expr} {kk : Nat} {pos : Pos} {k : Int} {P : Value → Led → Prop} (x : EV w a news e1 (Same news (IsI k))) (y : EV w a news e2 P)
    (he1 : starEach [e1, e2] a.env = (false, eval e1 a.env) :: starEach [e2] a.env := by rfl) (he2 : starEach [e2] a.env = (false, eval e2 a.env) :: starEach [] a.env := by rfl) :
    EV w a news (.Tuple [e1, e2] kk pos) (fun v n => ∃ ta to u n1, v = .ref ta ∧ n = (ta, to) :: n1 ∧ IsP2 to k u ∧ P u n1 ∧ ∀ p ∈ n1, p.1 ≠ ta) := by
  intro s Q E F N q
  refine Tuple_ ?_
  refine EVs.consI (R := fun vs n => ∃ t u, vs = [.int k t, u] ∧ P u n) x (fun t => EVs.cons y (fun u n hu => EVs.nil ⟨t, u, rfl, hu⟩) he2) he1 _ _ _ _ F N fun vs n h' tk hv F' N' => ?_
  obtain ⟨t, u, rfl, hu⟩ := hv
  refine newTuple_N (s := { s with heap := h', toks := tk }) F' N' (fun h2 F2 N2 => ?_) (by show 2 ≤ sizeLine; decide)
  exact q _ _ h2 tk ⟨_, _, u, n, rfl, rfl, ⟨t, _, rfl, rfl⟩, hu, fun p hp => Nat.ne_of_lt (Heap.lt_size (N' p hp).1)⟩ F2 N2
end
noncomputable abbrev offL (d : Addr) (n : Led) : Led := n.filter fun p => decide (p.1 ≠ d)
theorem offL_sub {d : Addr} {n : Led} : ∀ p ∈ offL d n, p ∈ n := fun p hp => (List.mem_filter.mp hp).1
theorem offL_ne {d : Addr} {n : Led} : ∀ p ∈ offL d n, p.1 ≠ d := fun p hp => by simpa using (List.mem_filter.mp hp).2
theorem offL_mem {d : Addr} {n : Led} {p : Addr × Obj} (h : p ∈ n) (hn : p.1 ≠ d) : p ∈ offL d n := List.mem_filter.mpr ⟨h, by simpa using hn⟩
theorem RowAt.off {g h : Heap} {L d : Addr} {n : Led} {od : Obj} {v : Value} {xs : List (Option Str)} (N : News g L h n) (hd : (d, od) ∈ n) (hc : ∀ items, IsL od items → items[7]? = none) (hr : RowAt n v xs) : RowAt (offL d n) v xs := by
  obtain ⟨l, lo, items, rfl, hm, hl, hi⟩ := hr
  refine ⟨l, lo, items, rfl, offL_mem hm fun e => ?_, hl, hi⟩
  have e1 := (N _ hm).1
  have e2 := (N _ hd).1
  have e : l = d := e
  subst e
  rw [e1] at e2
  cases e2
  obtain ⟨u, hu, -⟩ := hi 7 (by decide)
  rw [hc items hl] at hu
  cases hu
theorem RowAt.mono {n n' : Led} {v : Value} {xs : List (Option Str)} (hr : RowAt n v xs) (f : ∀ p ∈ n, p ∈ n') : RowAt n' v xs := by
  obtain ⟨l, lo, items, rfl, hm, hl, hi⟩ := hr
  exact ⟨l, lo, items, rfl, f _ hm, hl, hi⟩
theorem not_list_dict {od : Obj} {es : Array DictEntry} {k : Nat} (h : od.data = .dict es k) : ∀ items, IsL od items → items[7]? = none := fun items hl => by
  obtain ⟨-, n, e⟩ := hl
  rw [h] at e; cases e
section
variable {w : World} {a : At} {news : Led}
theorem EV.eight {x : Str} {k1 k2 : Nat} {p1 p2 p3 p4 : Pos} : EV w a news (.BinOp (.List [.Constant (.str x) k1 p1] p2) .Mult (.Constant (.int 8) k2 p3) p4) (fun v n => RowAt n v (List.replicate 8 (some x)) ∧ ∀ p ∈ news, p ∈ n) := by
  refine EV.mono (EV.mulL (n := 8) (R := fun vs n1 => AreC vs [.s x] ∧ n1 = news) ((EV.listC rfl (.cons (.s _ _ _) .nil) (show 1 ≤ 100 by decide)).mono fun v n hv => ?_) (fun n' => .pv fun h F N => .const 8 _ _) (fun vs n1 hv => hv.1.length) (by decide)) fun v n hv => ?_
  · obtain ⟨l, vs, rfl, hc, rfl, -⟩ := hv
    exact ⟨l, vs, news, rfl, ⟨hc, rfl⟩, rfl⟩
  · obtain ⟨l, vs, n1, o, rfl, ⟨hc, rfl⟩, rfl, ho⟩ := hv
    refine ⟨⟨l, o, _, rfl, .head _, ho, fun i hi => ?_⟩, fun p hp => .tail _ hp⟩
    cases hc with
    | cons h t =>
      cases t
      rename_i v0
      refine ⟨v0, ?_, ?_⟩
      · rw [List.getElem?_toArray, List.getElem?_replicate, if_pos hi]; rfl
      · rw [List.getElem?_replicate, if_pos hi]
        exact h
noncomputable def EDP (w : World) (a : At) (ks : List (Option Expr)) (vs : List Expr) (news : Led) (R : List (Value × Value) → Led → Prop) : Prop :=
  ∀ (pos : Pos) (s : Shared) (Q : List (Value × Value) → Shared → Prop) (E : Value → Shared → Prop), Fr a.g a.L s.heap a.m → News a.g a.L s.heap news → (∀ r n h' tk, R r n → Fr a.g a.L h' a.m → News a.g a.L h' n → Q r { s with heap := h', toks := tk }) → wpAny (model pr w) a.A (evalPairs (pairTrees ks vs a.env pos)) Q E s
theorem EDP.nil {R : List (Value × Value) → Led → Prop} (p : R [] news) : EDP w a [] [] news R := fun pos s Q E F N q => evalPairs_nil (q [] news s.heap s.toks p F N)
theorem EDP.consI {i : Int} {kk : Nat} {kp : Pos} {v : Expr} {ks : List (Option Expr)} {vs : List Expr} {P : Value → Led → Prop} {R : List (Value × Value) → Led → Prop} (x : EV w a news v P) (y : ∀ t u n, P u n → EDP w a ks vs n fun r n' => R ((.int i t, u) :: r) n') :
    EDP w a (some (.Constant (.int i) kk kp) :: ks) (v :: vs) news R := fun pos s Q E F N q => by
  refine evalPairs_cons (wpAny_Constant_int ?_)
  refine wpAny_bind (x _ _ _ F N fun u n h' tk p F' N' => ?_)
  refine wpAny_bind (wpAny_standAt (wpAny_pure ?_))
  exact y _ u n p pos _ _ _ F' N' fun r n' h'' tk' hr F'' N'' => q _ n' h'' tk' hr F'' N''
noncomputable abbrev emptyD : Obj := { cls := .type "dict", data := .dict #[] }
theorem EV.dictE {ks : List (Option Expr)} {vs : List Expr} {pos : Pos} {R : List (Value × Value) → Led → Prop} (nl : a.g.NoLimit) (dp : ∀ d, EDP w a ks vs ((d, emptyD) :: news) fun r n => R r n ∧ ∀ p ∈ (d, emptyD) :: news, p ∈ n) (hR : ∀ r n, R r n → allIntKeys r = true ∧ ((intKeyPairs r).map (·.1)).Nodup)
    (hI : intLits ks = true := by rfl) (hall : ks.all (·.isSome) = true := by rfl) (hl : ks.length = vs.length := by rfl) (h0 : ks ≠ [] := by simp) (hlen : ks.length ≤ 15 := by decide) :
    EV w a news (.Dict ks vs pos) (fun v n => ∃ d od r, v = .ref d ∧ (d, od) ∈ n ∧ od.IsDictOf (intKind pr w) (intKeyPairs r) ∧ (d == sysModules) = false ∧ (∀ p ∈ news, p ∈ n ∧ p.1 ≠ d) ∧ ∃ n1, R r n1 ∧ ∀ v xs, RowAt n1 v xs → RowAt n v xs) := by
  intro s Q E F N q
  refine Dict_made_int hI F hall hl h0 hlen fun F2 => ?_
  have N2 : News a.g a.L (s.heap.push emptyD) ((s.heap.objs.size, emptyD) :: news) := N.push F _
  refine dp _ pos _ _ _ F2 N2 fun r n h' tk hr F' N' => ?_
  have hmem : (s.heap.objs.size, emptyD) ∈ n := hr.2 _ (.head _)
  have hd0 : h'.DictOf (intKind pr w) s.heap.objs.size [] := by
    obtain ⟨o, ho, hd⟩ := Heap.dictOf_iff.mp (Heap.DictOf.new (knd := intKind pr w) s.heap)
    have e := (N' _ hmem).1
    have e2 : (s.heap.push emptyD).get? s.heap.objs.size = some emptyD := Heap.get?_push_size _ rfl
    rw [e2] at ho
    cases ho
    exact Heap.dictOf_iff.mpr ⟨_, e, hd⟩
  refine display_done_int (hR r n hr.1).1 (hR r n hr.1).2 hd0 fun h2 hd2 hs2 => ?_
  obtain ⟨od, ho, hod⟩ := Heap.dictOf_iff.mp hd2
  have z := N' _ hmem
  refine q _ ((s.heap.objs.size, od) :: offL s.heap.objs.size n) h2 _ ⟨_, od, r, rfl, .head _, hod, F.notModules (modules_low nl), fun p hp => ?_, n, hr.1, fun v xs hrow => ?_⟩ (F'.change hs2 z.2.1 z.2.2) fun p hp => ?_
  · have hne : p.1 ≠ s.heap.objs.size := Nat.ne_of_lt (Heap.lt_size (N p hp).1)
    exact ⟨.tail _ (offL_mem (hr.2 p (.tail _ hp)) hne), hne⟩
  · exact (RowAt.off N' hmem (not_list_dict rfl) hrow).mono fun p hp => .tail _ hp
  · rcases List.mem_cons.mp hp with rfl | hp
    · exact ⟨ho, z.2⟩
    · have y := N' p (offL_sub p hp)
      exact ⟨by rw [hs2.2 p.1 (offL_ne p hp)]; exact y.1, y.2⟩
end
noncomputable def strT : List (Int × Str) := [(0, "lb lh lw - lbu lhu - -"), (3, "fence fence.i - - - - - -"), (4, "addi - slti sltiu xori - ori andi"), (8, "sb sh sw - - - - -"), (24, "beq bne - - blt bge bltu bgeu"), (25, "jalr - - - - - - -"), (28, "- csrrw csrrs csrrc - csrrwi csrrsi csrrci")]
theorem strT_rows : strT.map (fun p => (p.1, (Txt.split p.2 " ").map dash)) = rowsT.take 7 := by decide +kernel
theorem rows_len : rowsT.all (fun p => p.2.length == 8) = true := by decide +kernel
end Mine
end
section
open PySem PySem.W PyProof.Rows PySem.Calls PyProof.V PySem.Spec PyProof.Rows.LCg
set_option maxHeartbeats 4000000
namespace Mine
noncomputable abbrev qA (dp un : Nat) (gd : Option (List Code)) (L : Addr) (outer : List Env) : Around := ktrTop dp un gd (Str.ofString "_law_rows") scF36 L 1094 (Value.ref 1093) [("every", L + 1)] outer
noncomputable abbrev qE (L : Addr) : Env := envX "_law_rows" scF36 L 1094 (.ref 1093) [("every", L + 1)]
noncomputable abbrev qAt (dp un : Nat) (gd : Option (List Code)) (g : Heap) (L : Addr) (outer : List Env) (m : Str → Option Value) : At := ⟨qA dp un gd L outer, qE L, g, L, m⟩
noncomputable def rScope : Scope := match bdF36 with | [_, .Assign _ (.Call _ [.ListComp _ _ s _] _ _) _, _, _] => s | _ => { kind := .function, names := [], isGenerator := false, isCoroutine := false }
noncomputable def PairsAt (n : Led) (ys : List Value) : Prop := ∀ (j : Nat) (v : Value), ys[j]? = some v → ∃ p : Int × List (Option Str), rowsT[j]? = some p ∧ ∃ (ta : Addr) (to : Obj) (u : Value), v = Value.ref ta ∧ (ta, to) ∈ n ∧ IsP2 to p.1 u ∧ RowAt n u p.2
theorem PairsAt.mono {n n' : Led} {ys : List Value} (h : PairsAt n ys) (f : ∀ p ∈ n, p ∈ n') : PairsAt n' ys := fun j v hv => by
  obtain ⟨p, hp, ta, to, u, rfl, hm, h2, hr⟩ := h j v hv
  exact ⟨p, hp, ta, to, u, rfl, f _ hm, h2, hr.mono f⟩
theorem areD_at {r : List (Value × Value)} {ps : List (Int × Str)} (x : AreD r (ps.map fun p => (p.1, IsS p.2))) : ∀ (i : Nat) (k : Int) (v : Value), (intKeyPairs r)[i]? = some (k, v) → ∃ s, ps[i]? = some (k, s) ∧ IsS s v := by
  induction ps generalizing r with
  | nil => cases x; intro i k v h; simp [intKeyPairs] at h
  | cons p ps ih =>
    cases x with
    | cons hp hr =>
      intro i k v h
      cases i with
      | zero =>
        simp [intKeyPairs] at h
        obtain ⟨rfl, rfl⟩ := h
        exact ⟨p.2, rfl, hp⟩
      | succ i => simpa using ih hr i k v (by simpa [intKeyPairs] using h)
theorem areD_len {r : List (Value × Value)} {ps : List (Int × (Value → Prop))} (x : AreD r ps) : (intKeyPairs r).length = ps.length := by
  induction x with
  | nil => rfl
  | cons _ _ ih => simp [intKeyPairs, ih]
theorem areD_val {r : List (Value × Value)} {ps : List (Int × Str)} (x : AreD r (ps.map fun p => (p.1, IsS p.2))) (hn : (ps.map (·.1)).Nodup) {i : Nat} {k : Int} {v : Value} (h : (intKeyPairs r)[i]? = some (k, v)) : valueAt (intKeyPairs r) k = some v := by
  have hk : (intKeyPairs r).map (·.1) = ps.map (·.1) := by
    have := x.keys.2
    rw [this, List.map_map]; rfl
  have hn' : ((intKeyPairs r).map (·.1)).Nodup := hk ▸ hn
  generalize intKeyPairs r = l at h hn'
  clear hk x hn
  induction l generalizing i with
  | nil => simp at h
  | cons p l ih =>
    rw [List.map_cons, List.nodup_cons] at hn'
    cases i with
    | zero =>
      simp at h
      subst h
      simp [valueAt]
    | succ i =>
      have h : l[i]? = some (k, v) := by simpa using h
      have hne : p.1 ≠ k := fun e => hn'.1 (e ▸ List.mem_map_of_mem (f := (·.1)) (List.mem_of_getElem? h))
      have := ih h hn'.2
      simpa [valueAt, List.find?_cons, hne] using this
theorem row_of {i : Nat} {k : Int} {s : Str} (h : strT[i]? = some (k, s)) : rowsT[i]? = some (k, (Txt.split s " ").map dash) ∧ s.length ≤ 1000 ∧ ((Txt.split s " ").map dash).length = 8 := by
  have h7 : i < 7 := by
    have := (List.getElem?_eq_some_iff.mp h).1
    exact this
  have h1 : rowsT[i]? = some (k, (Txt.split s " ").map dash) := by
    have e : (rowsT.take 7)[i]? = (strT.map (fun p => (p.1, (Txt.split p.2 " ").map dash)))[i]? := by rw [strT_rows]
    rw [List.getElem?_take_of_lt h7, List.getElem?_map, h] at e
    exact e
  refine ⟨h1, ?_, ?_⟩
  · have : strT.all (fun p => decide (p.2.length ≤ 1000)) = true := by decide +kernel
    have := List.all_eq_true.mp this _ (List.mem_of_getElem? h)
    simpa using this
  · have := List.all_eq_true.mp rows_len _ (List.mem_of_getElem? h1)
    simpa using this
section
variable {w : World} {mean : ExcName → Option Value} {mg mb : Str → Option Value} {A₀ : Around} {base g : Heap} {outer : List Env} {L : Addr} {m : Str → Option Value} {dp un : Nat} {gd : Option (List Code)} {news : Led}
theorem r_elt {C I D d : Addr} {oC oI od occ : Obj} {m₂ : Str → Option Value} {ys : List Value} {n : Led} {r : List (Value × Value)} {i : Nat} {k : Int} {x : Value} {v : Value} {tk : Tok} {s : Shared} {E' : Value → Shared → Prop} {rest : Value → Led → Prop} {p p2 p3 p4 p5 pT : Pos} {kk : Nat} {fpos : Pos}
    (B : Below A₀ base outer g) (X : (K0 w.params).In g) (T : Top qv (looseW qv looseL) mean mg mb g) (hd : dp + 1 ≤ 900) (hu : un + 20 ≤ 9000)
    (hk : (intKeyPairs r)[i]? = some (k, x)) (hv : v = .int k tk) (hr : AreD r (strT.map fun p => (p.1, IsS p.2))) (hod : od.IsDictOf (intKind pr w) (intKeyPairs r)) (hm : (d, od) ∈ n) (hmc : (L + 1, occ) ∈ n) (hoc : occ.data = .cell (some (.ref d)))
    (hP : PairsAt n ys) (hl : ys.length = i) (hN : NsObj oC m₂) (hx : m₂ "opcode" = some v) (F : Fr g L s.heap m) (N : News g L s.heap ((I, oI) :: (C, oC) :: (D, lst ys) :: n)) (off : Off3 I C D n)
    (q : ∀ y n', (∀ p ∈ n, p ∈ n') → PairsAt n' (ys ++ [y]) → rest y n') :
    wpAny (model pr w) (qA dp un gd L outer) (eval (.Tuple [.Name "opcode" p, .Call (.Name "_law_thirds" p2) [.Subscript (.Name "every" p3) (.Name "opcode" p4) p5] [] fpos] kk pT) (compEnvC rScope [("every", L + 1)] C (qE L))) (CompEnd g L m s I oI C oC D (lst ys) (fun n => (d, od) ∈ n) rest) E' s := by
  obtain ⟨sx, hs, hxs⟩ := areD_at hr i k x hk
  obtain ⟨hrow, hsl, hs8⟩ := row_of hs
  obtain ⟨tx, rfl⟩ := hxs
  subst hv
  have hval := areD_val hr (by decide) hk
  let led := (I, oI) :: (C, oC) :: (D, lst ys) :: n
  let a : At := ⟨qA dp un gd L outer, compEnvC rScope [("every", L + 1)] C (qE L), g, L, m⟩
  have opc : ∀ p, EV w a led (.Name "opcode" p) (Same led (IsI k)) := fun p => (EV.compName (a := a) (scope := rScope) (cl := [("every", L + 1)]) (C := C) (env := qE L) rfl hN (.tail _ (.head _)) hx rfl rfl).mono fun v n hv => ⟨⟨_, hv.1⟩, hv.2⟩
  have evy : ∀ p, EV w a led (.Name "every" p) (Same led (· = .ref d)) := fun p => EV.compCell (a := a) (scope := rScope) (cl := [("every", L + 1)]) (C := C) (env := qE L) rfl rfl (.tail _ (.tail _ (.tail _ hmc))) hoc rfl rfl
  have call : EV w a led (.Call (.Name "_law_thirds" p2) [.Subscript (.Name "every" p3) (.Name "opcode" p4) p5] [] fpos) (fun v n' => ∃ D ys, v = .ref D ∧ n' = (D, lst ys) :: led ∧ AreO ys ((Txt.split sx " ").map dash) ∧ ∀ p ∈ led, p.1 ≠ D) :=
    EV.callU (a := a) (cn := "_law_rows") (cs := scF36) (L := L) (f0 := 1094) (ccd := .ref 1093) (cl := [("every", L + 1)]) (scope := rScope) (ccl := [("every", L + 1)]) (C := C) (env := qE L) (outer := outer) rfl rfl B X T (f := 1089) (d := 1) (Pa := fun vs n' => vs = [.str sx tx] ∧ n' = led) (by kernel_rfl) (by kernel_rfl)
      (.cons (.itemD (a := a) (evy _) (opc _) (.tail _ (.tail _ (.tail _ hm))) hod hval) (fun v n' hv => .nil (by obtain ⟨rfl, rfl⟩ := hv; exact ⟨rfl, rfl⟩)))
      (fun vs n' hv => by obtain ⟨rfl, rfl⟩ := hv; exact thirds hsl) hd hu rfl rfl rfl (by decide)
  refine EV.tup2 (a := a) (opc _) call (by rfl) (by rfl) s _ _ F N fun v n' h' tk' hv F' N' => ?_
  obtain ⟨ta, to, u, n1, rfl, rfl, hp2, ⟨D', ys', rfl, rfl, hys, hD'⟩, hta⟩ := hv
  have hoff := off.mem
  refine .intro F' N' ((ta, to) :: (D', lst ys') :: n) (fun p hp => ?_) (Off3.of fun p hp => ?_) (.tail _ (.tail _ hm)) (q _ _ (fun p hp => .tail _ (.tail _ hp)) fun j v hj => ?_)
  · rcases List.mem_cons.mp hp with rfl | hp
    · exact .tail _ (.tail _ (.head _))
    rcases List.mem_cons.mp hp with rfl | hp
    · exact .tail _ (.tail _ (.tail _ (.head _)))
    rcases List.mem_cons.mp hp with rfl | hp
    · exact .tail _ (.tail _ (.tail _ (.tail _ (.head _))))
    rcases List.mem_cons.mp hp with rfl | hp
    · exact .head _
    rcases List.mem_cons.mp hp with rfl | hp
    · exact .tail _ (.head _)
    · exact .tail _ (.tail _ (.tail _ (.tail _ (.tail _ hp))))
  · rcases List.mem_cons.mp hp with rfl | hp
    · exact ⟨fun e => hta (I, oI) (.tail _ (.head _)) e.symm, fun e => hta (C, oC) (.tail _ (.tail _ (.head _))) e.symm, fun e => hta (D, lst ys) (.tail _ (.tail _ (.tail _ (.head _)))) e.symm⟩
    · rcases List.mem_cons.mp hp with rfl | hp
      · exact ⟨fun e => hD' (I, oI) (.head _) e.symm, fun e => hD' (C, oC) (.tail _ (.head _)) e.symm, fun e => hD' (D, lst ys) (.tail _ (.tail _ (.head _))) e.symm⟩
      · exact hoff p hp
  · by_cases hji : j < ys.length
    · rw [List.getElem?_append_left hji] at hj
      exact hP.mono (fun p hp => .tail _ (.tail _ hp)) j v hj
    · have hj2 : j = i := by
        have := (List.getElem?_eq_some_iff.mp hj).1
        rw [List.length_append, List.length_singleton] at this
        omega
      subst hj2
      rw [List.getElem?_append_right (by omega)] at hj
      rw [hl, Nat.sub_self] at hj
      cases hj
      refine ⟨_, hrow, ta, to, _, rfl, .head _, hp2, D', lst ys', ys'.toArray, rfl, .tail _ (.head _), ⟨rfl, _, rfl⟩, fun i hi => ?_⟩
      obtain ⟨u, hu, ho⟩ := hys.get i (by rw [hs8]; exact hi)
      exact ⟨u, by simpa using hu, ho⟩
end
end Mine
end
section
open PySem PySem.W PyProof.Rows PySem.Calls PyProof.V PySem.Spec PyProof.Rows.LCg
set_option maxHeartbeats 2000000
namespace Mine
inductive RS : Expr → (Value → Prop) → Prop
  | s (x : Str) (kk : Nat) (p : Pos) : RS (.Constant (.str x) kk p) (IsS x)
theorem updF_of {c : Addr} {o : Obj} {post : Led} (h2 : ∀ p ∈ post, p.1 ≠ c) : ∀ pre : Led, (∀ p ∈ pre, p.1 ≠ c) → UpdF c o (pre ++ (c, o) :: post) (fun o' => pre ++ (c, o') :: post)
  | [], _ => .head h2
  | p :: pre, h => .tail (h p (.head _)) (updF_of h2 pre fun q hq => h q (.tail _ hq))
theorem st_assignCV {w : World} {a : At} {news : Led} {cn : Str} {cs : Scope} {L f c : Addr} {ccd : Value} {cl : List (Str × Addr)} {s : Shared} {bd rest : List Stmt} {Q : Flow → Shared → Prop} {E : Value → Shared → Prop} {pos np : Pos} {x : Str} {e : Expr} {P : Value → Led → Prop} {R : Value → Led → Led → Prop}
    (henv : a.env = envX cn cs L f ccd cl) (hL : a.L = L) (hb : bd = .Assign [.Name x np] e pos :: rest) (F : Fr a.g a.L s.heap a.m) (N : News a.g a.L s.heap news) (ev : ∀ e', e' = e → EV w a news e' P) (hc : cl.lookup x = some c)
    (U : ∀ v n h, P v n → News a.g a.L h n → ∃ pre o v₀ post, n = pre ++ (c, o) :: post ∧ o.data = .cell v₀ ∧ (∀ p ∈ pre, p.1 ≠ c) ∧ (∀ p ∈ post, p.1 ≠ c) ∧ R v pre post)
    (k : ∀ v pre post h' tk bd' o', bd' = rest → R v pre post → o'.data = .cell (some v) → Fr a.g L h' a.m → News a.g L h' (pre ++ (c, o') :: post) → wpAny (model pr w) a.A (execs bd' (envX cn cs L f ccd cl)) Q E { s with heap := h', toks := tk })
    (hk : cs.kind = .function := by rfl) (hx : (envX cn cs L f ccd cl).kindOf x = some .cell := by rfl) (hs : swapsWith e (some (.Name x np)) pos.line (envX cn cs L f ccd cl) = pure false := by rfl) :
    wpAny (model pr w) a.A (execs bd (envX cn cs L f ccd cl)) Q E s := by
  subst hb
  subst hL
  have ev' := ev e rfl
  rw [← henv] at hs ⊢
  refine wpAny_execs_cons (wpAny_Assign_Name (ev' s _ _ F N fun v n h' tk p F' N' => ?_) hs)
  rw [henv]
  obtain ⟨pre, o, v₀, post, rfl, ho, h1, h2, hR⟩ := U v n h' p N'
  exact storeX_C (s := { s with heap := h', toks := tk }) F' N' hc (updF_of h2 pre h1) ho (fun h'' o' F'' N'' ho' => henv ▸ k v pre post h'' tk rest o' rfl hR ho' F'' N'') hk hx
noncomputable def RowsKV (n : Led) (kvs : List (Int × Value)) (T : List (Int × List (Option Str))) : Prop := ∀ k, match T.lookup k with | none => valueAt kvs k = none | some xs => ∃ v, valueAt kvs k = some v ∧ RowAt n v xs
theorem valueAt_st (kvs : List (Int × Value)) (k k' : Int) (v : Value) : valueAt (stored kvs k v) k' = if k' = k then some v else valueAt kvs k' := by
  unfold stored valueAt
  by_cases h : kvs.any (fun kv => decide (kv.1 = k)) = true
  · rw [if_pos h]
    by_cases e : k' = k
    · subst e
      rw [if_pos rfl]
      induction kvs with
      | nil => simp at h
      | cons p l ih =>
        rw [List.map_cons, List.find?_cons]
        by_cases e : p.1 = k'
        · simp [e]
        · rw [if_neg e]
          simp only [e, decide_false]
          exact ih (by simpa [List.any_cons, e] using h)
    · rw [if_neg e]
      clear h
      induction kvs with
      | nil => rfl
      | cons p l ih =>
        rw [List.map_cons, List.find?_cons, List.find?_cons]
        by_cases e2 : p.1 = k
        · have e3 : ¬ k = k' := fun z => e z.symm
          rw [if_pos e2]
          simp only [e2, e3, decide_false]
          exact ih
        · rw [if_neg e2]
          by_cases e3 : p.1 = k'
          · simp [e3]
          · simp only [e3, decide_false]
            exact ih
  · rw [if_neg h, List.find?_append]
    by_cases e : k' = k
    · subst e
      rw [if_pos rfl]
      have : kvs.find? (fun kv => decide (kv.1 = k')) = none := by
        rw [List.find?_eq_none]
        intro p hp hq
        exact h (List.any_eq_true.mpr ⟨p, hp, hq⟩)
      rw [this]
      simp
    · rw [if_neg e]
      have e3 : ¬ k = k' := fun z => e z.symm
      cases h2 : kvs.find? (fun kv => decide (kv.1 = k')) with
      | some p => simp
      | none => simp [e3]
theorem rowsKV_foldl {n : Led} : ∀ (ps : List (Int × Value)) (T : List (Int × List (Option Str))) (T0 : List (Int × List (Option Str))) (kvs : List (Int × Value)), RowsKV n kvs T0 → ps.length = T.length → (∀ (j : Nat) (p : Int × Value) (q : Int × List (Option Str)), ps[j]? = some p → T[j]? = some q → p.1 = q.1 ∧ RowAt n p.2 q.2) → ((T0 ++ T).map (·.1)).Nodup →
    RowsKV n (ps.foldl (fun kv p => stored kv p.1 p.2) kvs) (T0 ++ T)
  | [], T, T0, kvs, h, hl, _, _ => by
    cases T with
    | nil => rw [List.append_nil]; exact h
    | cons _ _ => simp at hl
  | p :: ps, T, T0, kvs, h, hl, hj, hn => by
    cases T with
    | nil => simp at hl
    | cons q T =>
      rw [List.foldl_cons, show T0 ++ q :: T = (T0 ++ [q]) ++ T by simp]
      obtain ⟨h1, h2⟩ := hj 0 p q rfl rfl
      refine rowsKV_foldl ps T (T0 ++ [q]) _ (fun k => ?_) (by simpa using hl) (fun j p' q' a b => hj (j + 1) p' q' (by simpa using a) (by simpa using b)) (by simpa using hn)
      have z := h k
      rw [valueAt_st, h1]
      have hq : q.1 ∉ T0.map (·.1) := by
        rw [List.map_append, List.nodup_append] at hn
        intro hm
        exact hn.2.2 q.1 hm q.1 (by simp) rfl
      rw [List.lookup_append]
      by_cases e : k = q.1
      · subst e
        have : T0.lookup q.1 = none := by
          rw [List.lookup_eq_none_iff]
          intro p hp
          have hne : q.1 ≠ p.1 := fun e => hq (List.mem_map.mpr ⟨p, hp, e.symm⟩)
          simpa using hne
        rw [this, if_pos rfl]
        obtain ⟨q1, q2⟩ := q
        simp only [List.lookup_cons, beq_self_eq_true, Option.or]
        exact ⟨_, rfl, h2⟩
      · rw [if_neg e]
        have hb : (k == q.1) = false := by simpa using e
        obtain ⟨q1, q2⟩ := q
        simp only [List.lookup_cons, hb, List.lookup_nil, Option.or_none]
        exact z
section
variable {w : World} {a : At} {news : Led} {mean : ExcName → Option Value} {mg mb : Str → Option Value}
theorem EV.dictPairs {cn : Str} {cs : Scope} {L f0 : Addr} {ccd : Value} {cl : List (Str × Addr)} {e arg : Expr} {np pos : Pos} (hh : a.A.handled = none) (henv : a.env = envX cn cs L f0 ccd cl) (hL : a.L = L) (X : (K0 w.params).In a.g) (T : Top qv (looseW qv looseL) mean mg mb a.g) (he0 : e = .Call (.Name "dict" np) [arg] [] pos)
    (x : ∀ g', g' = arg → EV w a news g' (fun v n => ∃ l ys k, v = .ref l ∧ (l, (⟨.type "list", none, .seq ys.toArray k, #[]⟩ : Obj)) ∈ n ∧ PairsAt n ys ∧ ys.length = 7 ∧ ∀ p ∈ news, p ∈ n))
    (hk : cs.kind = .function := by rfl) (h1 : (envX cn cs L f0 ccd cl).kindOf "dict" = some .globalImplicit := by rfl)
    (he : starEach [arg] (envX cn cs L f0 ccd cl) = (false, eval arg (envX cn cs L f0 ccd cl)) :: starEach [] (envX cn cs L f0 ccd cl) := by rfl) :
    EV w a news e (fun v n => ∃ d od kvs n1, v = .ref d ∧ n = (d, od) :: n1 ∧ od.IsDictOf (intKind pr w) kvs ∧ RowsKV n1 kvs (rowsT.take 7) ∧ (d == sysModules) = false ∧ (∀ p ∈ n1, p.1 ≠ d) ∧ kvs.length ≤ 7 ∧ ∀ p ∈ news, p ∈ n1) := by
  subst he0
  subst hL
  intro s Q E F N q
  have x' := x arg rfl
  unfold EV at x'
  rw [henv] at x' ⊢
  refine wpAny_Call_ofName (nameX_B F X (topRead_of T) (v := .type "dict") (by kernel_rfl) PyProof.Rows.Boot.«dict» (by decide) ?_ hk h1 (by decide))
  refine PyProof.Rows.callWith_type1 (spliced_more (x' _ _ _ F N fun v n h2 tk hv F2 N2 => ?_) he) he
  obtain ⟨l, ys, k, rfl, hm, hP, hl, hs⟩ := hv
  let key : Nat → Int := fun j => (rowsT[j]?.getD (0, [])).1
  have hv : ∀ j, ∃ u, ∀ v, ys[j]? = some v → ∃ a o, v = .ref a ∧ (a, o) ∈ n ∧ IsP2 o (key j) u ∧ RowAt n u (rowsT[j]?.getD (0, [])).2 := fun j => by
    cases hy : ys[j]? with
    | none => exact ⟨.none, fun v hv => by cases hv⟩
    | some v =>
      obtain ⟨p, hp, ta, to, u, rfl, hm, h2, hr⟩ := hP j v hy
      refine ⟨u, fun v hv => ?_⟩
      cases hv
      show ∃ a o, Value.ref ta = .ref a ∧ (a, o) ∈ n ∧ IsP2 o (rowsT[j]?.getD (0, [])).1 u ∧ RowAt n u (rowsT[j]?.getD (0, [])).2
      rw [hp]
      exact ⟨ta, to, rfl, hm, h2, hr⟩
  obtain ⟨val, hval⟩ := Classical.axiomOfChoice hv
  refine spliced_none (call_dict_pairs (s := { s with heap := h2, toks := tk }) hh (N2.get hm) rfl rfl rfl key val n (fun p hp => (N2 p hp).1) (fun i v hv => ?_) (by simp [hl]) fun h3 tk3 hk3 hd3 => ?_)
  · obtain ⟨a, o, h1, h2, h3, -⟩ := hval i v (by simpa using hv)
    exact ⟨a, o, h1, h2, h3⟩
  · obtain ⟨od, ho, hod⟩ := Heap.dictOf_iff.mp hd3
    have F3 : Fr a.g a.L h3 a.m := F2.keeps hk3
    have N3 : News a.g a.L h3 n := N2.grown hk3
    have hz : (ys.toArray.size : Nat) = 7 := by simp [hl]
    refine q _ ((h2.objs.size, od) :: n) h3 tk3 ⟨_, od, _, n, rfl, rfl, hod, ?_, F2.notModules (modules_low T.nolimit), fun p hp => Nat.ne_of_lt (Heap.lt_size (N2 p hp).1), ?_, hs⟩ F3 fun p hp => ?_
    · rw [hz]
      refine rowsKV_foldl (n := n) _ (rowsT.take 7) [] [] (fun k => rfl) (by rw [List.length_map, List.length_range']; rfl) (fun j p q hp hq => ?_) (by decide)
      have hj : j < 7 := by
        have := (List.getElem?_eq_some_iff.mp hp).1
        simpa using this
      rw [List.getElem?_map, List.getElem?_range' hj] at hp
      cases hp
      rw [List.getElem?_take_of_lt hj] at hq
      obtain ⟨v, hy⟩ : ∃ v, ys[j]? = some v := ⟨_, List.getElem?_eq_getElem (by omega)⟩
      obtain ⟨a, o, -, -, -, hr⟩ := hval j v hy
      simp only [Nat.zero_add, Nat.one_mul]
      refine ⟨?_, ?_⟩
      · show (rowsT[j]?.getD (0, [])).1 = q.1
        rw [hq]; rfl
      · rw [hq] at hr; exact hr
    · rw [hz]
      refine Nat.le_trans (merged_length_le [] _) ?_
      simp
    · rcases List.mem_cons.mp hp with rfl | hp
      · exact ⟨ho, Nat.ne_of_gt F2.ns.lt, next_is_new F2⟩
      · exact N3 p hp
end
section
variable {w : World} {mean : ExcName → Option Value} {mg mb : Str → Option Value} {A₀ : Around} {base g : Heap} {outer : List Env} {L : Addr} {m : Str → Option Value} {dp un : Nat} {gd : Option (List Code)} {news : Led}
theorem EV.rComp {d : Addr} {od occ : Obj} {r : List (Value × Value)} {e : Expr} {p p2 p3 p4 p5 pT px py cpos fpos : Pos} {kk : Nat}
    (B : Below A₀ base outer g) (X : (K0 w.params).In g) (T : Top qv (looseW qv looseL) mean mg mb g) (hd : dp + 1 ≤ 900) (hu : un + 20 ≤ 9000)
    (hr : AreD r (strT.map fun p => (p.1, IsS p.2))) (hod : od.IsDictOf (intKind pr w) (intKeyPairs r)) (lo : (d == sysModules) = false) (hm : (d, od) ∈ news) (hmc : (L + 1, occ) ∈ news) (hoc : occ.data = .cell (some (.ref d)))
    (he : e = .ListComp (.Tuple [.Name "opcode" p, .Call (.Name "_law_thirds" p2) [.Subscript (.Name "every" p3) (.Name "opcode" p4) p5] [] fpos] kk pT) [⟨.Name "opcode" px, .Name "every" py, [], 0⟩] rScope cpos) :
    EV w (qAt dp un gd g L outer m) news e (fun v n => ∃ l ys k, v = .ref l ∧ (l, (⟨.type "list", none, .seq ys.toArray k, #[]⟩ : Obj)) ∈ n ∧ PairsAt n ys ∧ ys.length = 7 ∧ ∀ p ∈ news, p ∈ n) := by
  subst he
  intro s Q E F N q
  have hlen : (intKeyPairs r).length = 7 := by rw [areD_len hr]; rfl
  refine ListComp_D (knd := intKind pr w) (cl := [("every", L + 1)]) (h₀ := g) (L := L) (m := m) (x := "opcode") rfl (by rfl) (by decide) rfl (by decide) (by rfl) (nameX_C N rfl hmc hoc ⟨d, od, _, news, rfl, F, N, hm, hod, lo, by rw [hlen]; decide, fun s₂ hs₂ => ?_⟩)
  obtain ⟨h2, rfl⟩ := hs₂
  refine compRest (fun i ys n => ys.length = i ∧ PairsAt n ys ∧ ∀ p ∈ news, p ∈ n) 7 (fun i v ys n I oI C oC D m₂ h tk E' hi hP hJ hN hx F N off ne => ?_) (fun ys n hJ => ?_) _ 0 [] _ (by rw [hlen]) ⟨rfl, fun j v hv => by simp at hv, fun p hp => hp⟩
  · obtain ⟨k, x, hk, hkey⟩ := hP
    obtain ⟨t, rfl⟩ := Value.isInt_shape hkey
    obtain ⟨hl, hPa, hs⟩ := hJ
    exact r_elt (s := { s with heap := h, toks := tk }) (i := i) B X T hd hu hk rfl hr hod (hs _ hm) (hs _ hmc) hoc hPa hl hN hx F N off fun y n' h1 h2 => ⟨by rw [List.length_append, hl]; rfl, h2, fun p hp => h1 p (hs p hp)⟩
  · obtain ⟨hl, hPa, hs⟩ := hJ
    intro D h tk F N o1
    exact q _ _ h tk ⟨D, ys, _, rfl, .head _, hPa.mono fun p hp => .tail _ hp, hl, fun p hp => .tail _ (hs p hp)⟩ F N
end
theorem RowsKV.mono {n n' : Led} {kvs : List (Int × Value)} {T : List (Int × List (Option Str))} (h : RowsKV n kvs T) (f : ∀ v xs, RowAt n v xs → RowAt n' v xs) : RowsKV n' kvs T := fun k => by
  have z := h k
  cases hq : T.lookup k with
  | none => rw [hq] at z; exact z
  | some xs =>
    rw [hq] at z
    obtain ⟨v, hv, hr⟩ := z
    exact ⟨v, hv, f v xs hr⟩
section
variable {w : World} {a : At} {news : Led}
theorem EV.updateD {e : Expr} {x : Str} {px apos pos : Pos} {ks : List (Option Expr)} {vs : List Expr} {dpos : Pos} {d : Addr} {od : Obj} {kvs : List (Int × Value)} {n1 : Led} {R : List (Value × Value) → Led → Prop} (he : e = .Call (.Attribute (.Name x px) "update" apos) [.Dict ks vs dpos] [] pos)
    (xv : ∀ h, Fr a.g a.L h a.m → News a.g a.L h ((d, od) :: n1) → PV pr w a.A a.env h (.Name x px) (· = .ref d)) (hod : od.IsDictOf (intKind pr w) kvs) (hk7 : kvs.length ≤ 100) (hd1 : ∀ p ∈ n1, p.1 ≠ d)
    (nl : a.g.NoLimit) (dp : ∀ d2 ks' vs', ks' = ks → vs' = vs → EDP w a ks' vs' ((d2, emptyD) :: (d, od) :: n1) fun r n => R r n ∧ ∀ p ∈ (d2, emptyD) :: (d, od) :: n1, p ∈ n) (hR : ∀ r n, R r n → allIntKeys r = true ∧ ((intKeyPairs r).map (·.1)).Nodup ∧ (intKeyPairs r).length ≤ 100)
    (hI : intLits ks = true := by rfl) (hall : ks.all (·.isSome) = true := by rfl) (hl : ks.length = vs.length := by rfl) (h0 : ks ≠ [] := by simp) (hlen : ks.length ≤ 15 := by decide)
    (hbase : attributeBase (.Name x px) "update" a.env (eval (.Name x px) a.env) = eval (.Name x px) a.env := by rfl) (hline : (apos.endLine == pos.line) = true := by rfl) (htrees : backTo pos (starEach [.Dict ks vs dpos] a.env) = [(false, eval (.Dict ks vs dpos) a.env)] := by rfl) :
    EV w a ((d, od) :: n1) e (fun v n => ∃ od' r n2 n3, n = (d, od') :: n3 ∧ (∀ p ∈ n3, p.1 ≠ d) ∧ od'.IsDictOf (intKind pr w) (merged kvs (intKeyPairs r)) ∧ R r n2 ∧ (∀ v xs, RowAt n2 v xs → RowAt n3 v xs) ∧ ∀ p ∈ n1, p ∈ n3) := by
  subst he
  intro s Q E F N q
  refine wpAny_Call_method1_late hbase hline htrees (xv _ F N s _ _ rfl fun v tk hv => ?_)
  subst hv
  have D1 := kda_dict (s := { s with toks := tk }) N (.head _) hod
  refine ⟨"dict", "dict.update", PySem.F.plainAttrs_dict, PySem.F.slot_dict_update, PySem.F.type_dict_update, D1.typeIs, D1.mapOf.noDict, ?_⟩
  refine PySem.Calls.callWith_builtin rfl (PySem.Calls.evalArgs_plain (PySem.Calls.spliced_cons ?_))
  refine EV.dictE (a := a) (news := (d, od) :: n1) nl (fun d2 => dp d2 ks vs rfl rfl) (fun r n hr => ⟨(hR r n hr).1, (hR r n hr).2.1⟩) hI hall hl h0 hlen _ _ _ F N fun v n h2 tk2 hv F2 N2 => PySem.Calls.spliced_nil ?_
  obtain ⟨d2, od2, r, rfl, hm2, hod2, lo2, hsub, n2, hr, hrow⟩ := hv
  have hmd := (hsub (d, od) (.head _)).1
  have hne : d ≠ d2 := (hsub (d, od) (.head _)).2
  have hD1 := kda_dict (s := { s with heap := h2, toks := tk2 }) N2 hmd hod
  have hD2 := kda_dict (s := { s with heap := h2, toks := tk2 }) N2 hm2 hod2
  refine call_meetsIn PySem.F.slot_dict_update hD1.typeIs PySem.F.entry_dict_update (PySem.F.args_dict_update_2 _ _) (meets_dict_update (intKind pr w) d d2 hne lo2) ⟨kvs, intKeyPairs r, hD1, hD2, Nat.le_trans (Nat.add_le_add hk7 (hR r n2 hr).2.2) (by decide), fun h3 hm3 _ hs3 => ?_⟩
  obtain ⟨od', ho', hod'⟩ := Heap.dictOf_iff.mp hm3
  have z := N2 _ hmd
  obtain ⟨es, ep, -, hdat, -⟩ := hod
  refine q _ ((d, od') :: offL d n) h3 _ ⟨od', r, n2, offL d n, rfl, offL_ne, hod', hr, fun v xs hx => RowAt.off N2 hmd (not_list_dict hdat) (hrow v xs hx), fun p hp => offL_mem (hsub p (.tail _ hp)).1 (hd1 p hp)⟩ (F2.change hs3 z.2.1 z.2.2) fun p hp => ?_
  rcases List.mem_cons.mp hp with rfl | hp
  · exact ⟨ho', z.2⟩
  · have y := N2 p (offL_sub p hp)
    exact ⟨by rw [hs3.2 p.1 (offL_ne p hp)]; exact y.1, y.2⟩
theorem st_exprV {env : Env} {s : Shared} {bd rest : List Stmt} {Q : Flow → Shared → Prop} {E : Value → Shared → Prop} {pos : Pos} {e : Expr} {P : Value → Led → Prop} (henv : a.env = env) (hb : bd = .Expr e pos :: rest) (F : Fr a.g a.L s.heap a.m) (N : News a.g a.L s.heap news) (ev : ∀ e', e' = e → EV w a news e' P)
    (k : ∀ v n h' tk bd', bd' = rest → P v n → Fr a.g a.L h' a.m → News a.g a.L h' n → wpAny (model pr w) a.A (execs bd' env) Q E { s with heap := h', toks := tk })
    (hi : interactive env = false := by rfl) (hs : swapsWith e none pos.line env = pure false := by rfl) :
    wpAny (model pr w) a.A (execs bd env) Q E s := by
  subst hb
  subst henv
  exact wpAny_execs_cons (wpAny_Expr_any (ev e rfl s _ _ F N fun v n h' tk p F' N' => k v n h' tk rest rfl p F' N') hi hs)
end
theorem rowsC {w : World} {mean : ExcName → Option Value} {mg mb : Str → Option Value} {news : Led} :
    Call w mean mg mb 1094 3 [] news (fun v n => ∃ r, v = .ref r ∧ RowsAt w n r ∧ ∀ p ∈ news, p ∈ n) := by
  refine Call.ofC (x := "every") (fo1094 _) (co1094 _) (by kernel_rfl) (fun n => by rfl) ?_
  intro dp un gd outer A₀ base g L oc v0 s Q E S hoc hlt hd hu ret
  obtain ⟨bd, hbd⟩ : ∃ bd, bd = bdF36 := ⟨_, rfl⟩
  rw [← hbd]
  refine st_assignCV (a := qAt dp un gd g L outer (fun _ => none)) (c := L + 1) (cl := [("every", L + 1)]) (x := "every") (P := fun v n => ∃ d od r, v = .ref d ∧ n = (d, od) :: (L + 1, oc) :: news ∧ AreD r (strT.map fun (p : Int × Str) => (p.1, IsS p.2)) ∧ od.IsDictOf (intKind pr w) (intKeyPairs r) ∧ (d == sysModules) = false) (R := fun v pre post => ∃ d od r, v = .ref d ∧ pre = [(d, od)] ∧ post = news ∧ AreD r (strT.map fun (p : Int × Str) => (p.1, IsS p.2)) ∧ od.IsDictOf (intKind pr w) (intKeyPairs r) ∧ (d == sysModules) = false) rfl rfl (hbd.trans rfl) S.F S.N (fun e' he => ?_) rfl (fun v n h hv N => ?_) ?_
  · exact EV.dictD (R := RS) (ps := strT.map fun (p : Int × Str) => (p.1, IsS p.2)) he S.T.nolimit (.cons (.s _ _ _) (.cons (.s _ _ _) (.cons (.s _ _ _) (.cons (.s _ _ _) (.cons (.s _ _ _) (.cons (.s _ _ _) (.cons (.s _ _ _) .nil))))))) (fun h v P F hR => by cases hR; exact .constS _ _ _) (show ([0, 3, 4, 8, 24, 25, 28] : List Int).Nodup by decide) (by simp [strT]) (by simp [strT])
  · obtain ⟨d, od, r, rfl, rfl, hr, hod, lo⟩ := hv
    have hne : d ≠ L + 1 := fun e => by
      have e1 := (N (d, od) (.head _)).1
      have e2 := (N (L + 1, oc) (.tail _ (.head _))).1
      have e : d = L + 1 := e
      subst e
      rw [e1] at e2
      cases e2
      obtain ⟨es, ep, -, hdat, -⟩ := hod
      rw [hdat] at hoc
      cases hoc
    exact ⟨[(d, od)], oc, v0, news, rfl, hoc, fun p hp => by rw [List.mem_singleton.mp hp]; exact hne, fun p hp => Nat.ne_of_lt (Nat.lt_succ_of_lt (hlt p hp)), d, od, r, rfl, rfl, rfl, hr, hod, lo⟩
  intro v pre post h1 tk1 bd1 o1 hb1 hv ho1 F1 N1
  obtain ⟨d, od, r, rfl, rfl, rfl, hr, hod, lo⟩ := hv
  refine st_assignV (s := { s with heap := h1, toks := tk1 }) (a := qAt dp un gd g L outer (fun _ => none)) (x := "found") (cl := [("every", L + 1)]) rfl rfl hb1 F1 N1 (fun e' he => EV.dictPairs (cn := "_law_rows") (cs := scF36) (f0 := 1094) (ccd := .ref 1093) (cl := [("every", L + 1)]) rfl rfl rfl S.X S.T he fun e2 he2 => EV.rComp (occ := o1) S.B S.X S.T (by omega) (by omega) hr hod lo (.head _) (.tail _ (.head _)) ho1 he2) ?_
  intro v n2 h2 tk2 bd2 hb2 hv F2 N2
  obtain ⟨df, odf, kvs, n1, rfl, rfl, hodf, hrows, lof, hn1, hlen, hsub⟩ := hv
  have F2 : Fr g L h2 (fun y => if y = "found" then some (Value.ref df) else none) := F2
  refine st_exprV (s := { s with heap := h2, toks := tk2 }) (a := qAt dp un gd g L outer (fun y => if y = "found" then some (Value.ref df) else none)) rfl hb2 F2 N2 (fun e' he => EV.updateD (R := fun r n => ∃ t5 t13 t27 v5 v13 v27, r = [(.int 5 t5, v5), (.int 13 t13, v13), (.int 27 t27, v27)] ∧ RowAt n v5 (List.replicate 8 (some "auipc")) ∧ RowAt n v13 (List.replicate 8 (some "lui")) ∧ RowAt n v27 (List.replicate 8 (some "jal"))) he
    (fun h F N => .name (P := (· = .ref df)) (cn := "_law_rows") (cs := scF36) (a := 1094) (ccd := .ref 1093) (cl := [("every", L + 1)]) F rfl rfl) hodf (by omega) hn1 S.T.nolimit (fun d2 ks' vs' hks hvs => ?_) (fun r n hr => ?_)) ?_
  · subst hks
    subst hvs
    refine .consI .eight fun t5 v5 n5 h5 => .consI .eight fun t13 v13 n13 h13 => .consI .eight fun t27 v27 n27 h27 => .nil ⟨⟨t5, t13, t27, v5, v13, v27, rfl, ?_, ?_, h27.1⟩, fun p hp => h27.2 p (h13.2 p (h5.2 p hp))⟩
    · exact h5.1.mono fun p hp => h27.2 p (h13.2 p hp)
    · exact h13.1.mono h27.2
  · obtain ⟨t5, t13, t27, v5, v13, v27, rfl, -⟩ := hr
    exact ⟨rfl, show ([5, 13, 27] : List Int).Nodup by decide, show 3 ≤ 100 by decide⟩
  intro v n3 h3 tk3 bd3 hb3 hv F3 N3
  obtain ⟨od', r, n2, n4, rfl, hn4, hod', ⟨t5, t13, t27, v5, v13, v27, rfl, r5, r13, r27⟩, hrow, hs4⟩ := hv
  refine st_returnV (s := { s with heap := h3, toks := tk3 }) (a := qAt dp un gd g L outer (fun y => if y = "found" then some (Value.ref df) else none)) (P := Same ((df, od') :: n4) (· = .ref df)) rfl hb3 F3 N3 (fun e' he => he ▸ .pv fun h F N => .name (P := (· = .ref df)) (cn := "_law_rows") (cs := scF36) (a := 1094) (ccd := .ref 1093) (cl := [("every", L + 1)]) F rfl rfl) fun v n' h' tk' hv F' N' => ?_
  obtain ⟨rfl, rfl⟩ := hv
  refine ret _ _ ((df, od') :: n4) _ _ ⟨df, rfl, ⟨od', _, .head _, hod', lof, ?_⟩, fun p hp => .tail _ (hs4 p (hsub p (.tail _ (.tail _ hp))))⟩ F' N'
  have key : RowsKV n4 (merged kvs [(5, v5), (13, v13), (27, v27)]) (rowsT.take 7 ++ (([(5, List.replicate 8 (some "auipc")), (13, List.replicate 8 (some "lui")), (27, List.replicate 8 (some "jal"))] : List (Int × List (Option Str))))) :=
    rowsKV_foldl [(5, v5), (13, v13), (27, v27)] _ (rowsT.take 7) kvs (hrows.mono fun v xs hx => hx.mono hs4) rfl (fun j p q hp hq => by
      match j with
      | 0 => cases hp; cases hq; exact ⟨rfl, hrow _ _ r5⟩
      | 1 => cases hp; cases hq; exact ⟨rfl, hrow _ _ r13⟩
      | 2 => cases hp; cases hq; exact ⟨rfl, hrow _ _ r27⟩
      | j + 3 => simp at hp) (by decide)
  exact fun k => by
    have z := key.mono (n' := (df, od') :: n4) (fun v xs hx => hx.mono fun p hp => .tail _ hp) k
    exact z
section
variable {w : World} {a : At} {news : Led} {mean : ExcName → Option Value} {mg mb : Str → Option Value}
theorem EV.sliceTo {e v : Expr} {k : Int} {kk : Nat} {kp p pos : Pos} {l : Addr} {items : Array Value} (he : e = .Subscript v (.Slice none (some (.Constant (.int k) kk kp)) none p) pos) (x : ∀ v', v' = v → EV w a news v' (Same news (· = .ref l))) (hl : a.g.IsList l items) (hsz : items.size ≤ 100)
    (ht : ∀ o r, letTemporaryGo v o r = pure () := by intro _ _; rfl) :
    EV w a news e (fun v n => ∃ d, v = .ref d ∧ n = (d, (⟨.type "list", none, .seq (slicePick items none (some k) none) 0, #[]⟩ : Obj)) :: news) := by
  subst he
  intro s Q E F N q
  refine wpAny_Subscript_list_slice (x v rfl s _ _ F N fun u n h1 tk hu F1 N1 => ?_) ht
  obtain ⟨rfl, rfl⟩ := hu
  refine evalPart_none_step (evalPart_some_step (wpAny_Constant_int ?_))
  have hl1 : h1.IsList l items := by obtain ⟨o, e, r⟩ := hl; exact ⟨o, F1.keep _ _ e, r⟩
  refine ⟨l, items, none, some k, rfl, hl1, Nat.le_trans hsz (by decide), .none, .int k _, ?_⟩
  have N2 := News.push (F1.push { cls := .type "slice", data := .fields #[.none, .int k tk, .none] }) (N1.grown fun _ _ e => Heap.get?_push_of_some _ e) { cls := .type "list", data := .seq (slicePick items none (some k) none) }
  refine q _ _ _ _ ⟨_, rfl, rfl⟩ ((F1.push _).push _) ?_
  rw [Heap.size_push] at N2
  exact N2
theorem EV.absU {scope : Scope} {ccl : List (Str × Addr)} {C : Addr} {env : Env} {e : Expr} {np pos : Pos} {i : Int} (henv : a.env = compEnvC scope ccl C env) (hgl : env.globals = mainGlobals) (hbl : env.builtins = builtinsNs) (X : (K0 w.params).In a.g) (T : Top qv (looseW qv looseL) mean mg mb a.g)
    (x : EV w a news e (Same news (IsI i))) (hks : (compEnvC scope ccl C env).scope.kind = .function) (hx : (compEnvC scope ccl C env).kindOf "abs" = some .globalImplicit)
    (he : starEach [e] (compEnvC scope ccl C env) = (false, eval e (compEnvC scope ccl C env)) :: starEach [] (compEnvC scope ccl C env) := by rfl) :
    EV w a news (.Call (.Name "abs" np) [e] [] pos) (Same news (IsI i.natAbs)) := by
  intro s Q E F N q
  have x' := x
  unfold EV at x'
  rw [henv] at x' ⊢
  have TR := topRead_of T
  refine wpAny_Call_ofName (Name_function_global hks hx (loadGlobal_builtin (mg := mg) (mb := mb) (by show Heap.Ns _ env.globals _; rw [hgl]; exact TR.g.keeps F.keep) (mg_none_of X TR.g (by kernel_rfl)) (by show Heap.Ns _ env.builtins _; rw [hbl]; exact TR.b.keeps F.keep) ((TR.builtins "abs" (by decide)).trans PyProof.Rows.boot_abs) ?_) (by decide))
  refine PyProof.Rows.callWith_builtin1 (spliced_more (x' _ _ _ F N fun v n h2 tk hv F2 N2 => ?_) he) he
  obtain ⟨⟨t, rfl⟩, rfl⟩ := hv
  refine spliced_none (call_abs_int (s := { s with heap := h2, toks := tk }) fun u tk' => ?_)
  exact q _ n h2 _ ⟨⟨u, by rw [show (if i < 0 then -i else i) = (i.natAbs : Int) by split <;> omega]⟩, rfl⟩ F2 N2
theorem EV.sumL {cn : Str} {cs : Scope} {L f0 : Addr} {ccd : Value} {cl : List (Str × Addr)} {e arg : Expr} {np pos : Pos} (hh : a.A.handled = none) (henv : a.env = envX cn cs L f0 ccd cl) (hL : a.L = L) (X : (K0 w.params).In a.g) (T : Top qv (looseW qv looseL) mean mg mb a.g) (he0 : e = .Call (.Name "sum" np) [arg] [] pos)
    (x : ∀ g', g' = arg → EV w a news g' (fun v n => ∃ l o items xs, v = .ref l ∧ (l, o) ∈ n ∧ IsL o items ∧ IntsAre items.toList xs ∧ ∀ p ∈ news, p ∈ n))
    (hk : cs.kind = .function := by rfl) (h1 : (envX cn cs L f0 ccd cl).kindOf "sum" = some .globalImplicit := by rfl)
    (he : starEach [arg] (envX cn cs L f0 ccd cl) = (false, eval arg (envX cn cs L f0 ccd cl)) :: starEach [] (envX cn cs L f0 ccd cl) := by rfl) :
    EV w a news e (Same news fun v => ∃ i, IsI i v) := by
  subst he0
  subst hL
  intro s Q E F N q
  have x' := x arg rfl
  unfold EV at x'
  rw [henv] at x' ⊢
  refine wpAny_Call_ofName (nameX_B F X (topRead_of T) (v := .builtin "sum") (by kernel_rfl) PyProof.Rows.boot_sum (by decide) ?_ hk h1 (by decide))
  refine PyProof.Rows.callWith_builtin1 (spliced_more (x' _ _ _ F N fun v n h2 tk hv F2 N2 => ?_) he) he
  obtain ⟨l, o, items, xs, rfl, hm, hl, hi, hs⟩ := hv
  have hL2 : h2.IsList l items := ⟨o, N2.get hm, hl⟩
  have hlt : l < h2.objs.size := Heap.lt_size (N2.get hm)
  refine spliced_none (call_sum_walkG (s := { s with heap := h2, toks := tk }) (wpAny_pyIter_list hL2 ⟨h2.objs.size, [h2.objs.size, l], [h2.objs.size], items.size, _, _, fun i => xs.getD i 0, rfl, Walks.list (by simp [hh]) h2.objs.size l (Nat.ne_of_lt hlt) items, ⟨⟨_, Heap.get?_push_size _ rfl, rfl, rfl⟩, hL2.push _⟩, fun b hb => ?_, fun i v hv => IntsAre.int_at hi i v (by simpa using hv), fun h' tk' t' hk' => ?_⟩))
  · show b < (h2.push _).objs.size
    rw [Heap.size_push]
    rcases List.mem_cons.mp hb with rfl | hb
    · exact Nat.lt_succ_self _
    · rw [List.mem_singleton.mp hb]; exact Nat.lt_succ_of_lt hlt
  · have up : ∀ b o, h2.get? b = some o → h'.get? b = some o := fun b o e => hk' b o (by rw [List.mem_singleton]; exact Nat.ne_of_lt (Heap.lt_size e)) (Heap.get?_push_of_some _ e)
    exact q _ news h' tk' ⟨⟨_, t', rfl⟩, rfl⟩ (F2.keeps up) (News.sub (N2.grown up) hs)
theorem EV.ltV {e l r : Expr} {pos : Pos} {k : Int} (he : e = .Compare l [.Lt] [r] pos) (x : ∀ l', l' = l → EV w a news l' (Same news fun v => ∃ i, IsI i v)) (y : EV w a news r (Same news (IsI k))) (hm : behindInMarks .Lt r = false := by with_unfolding_all rfl) :
    EV w a news e (Same news fun v => ∃ b, v = .bool b) := by
  subst he
  intro s Q E F N q
  refine wpAny_Compare1 (x l rfl s _ _ F N fun v n h1 tk hv F1 N1 => ?_) hm
  obtain ⟨⟨i, t, rfl⟩, rfl⟩ := hv
  refine y _ _ _ F1 N1 fun v n' h2 tk' hv F2 N2 => ?_
  obtain ⟨⟨u, rfl⟩, rfl⟩ := hv
  exact PyProof.Rows.lt_int (q _ n' h2 tk' ⟨⟨_, rfl⟩, rfl⟩ F2 N2)
theorem EV.call0 {cn : Str} {cs : Scope} {L f0 : Addr} {ccd : Value} {cl : List (Str × Addr)} {A₀ : Around} {base : Heap} {outer : List Env} {dp un : Nat} {gd : Option (List Code)}
    {x : Str} {np pos : Pos} {f : Addr} {d : Nat} {P : Value → Led → Prop}
    (ha : a = ⟨ktrTop dp un gd cn cs L f0 ccd cl outer, envX cn cs L f0 ccd cl, a.g, L, a.m⟩) (B : Below A₀ base outer a.g) (X : (K0 w.params).In a.g) (T : Top qv (looseW qv looseL) mean mg mb a.g)
    (hf : nsIn (K0 w.params) mainGlobals x = some (some (.ref f))) (hkeep : keepIn (K0 w.params) (.ref f) = true)
    (C : Call w mean mg mb f d [] news P) (hd : dp + d ≤ 900) (hu : un + 20 * d ≤ 9000)
    (hk : cs.kind = .function := by rfl) (hx : (envX cn cs L f0 ccd cl).kindOf x = some .globalImplicit := by rfl) (hdb : (x == ("__debug__" : Str)) = false := by decide) :
    EV w a news (.Call (.Name x np) [] [] pos) P := by
  obtain ⟨aA, aenv, ag, aL, am⟩ := a
  obtain ⟨rfl, rfl, -, rfl, -⟩ := At.mk.inj ha
  intro s Q E F N q
  refine wpAny_Call_ofName (nameX_K F X (topRead_of T) hf ?_ hk hx hdb)
  refine callWith_K0 (X.keeps F.keep) hkeep ?_
  exact C _ _ _ _ _ _ _ _ _ _ _ _ _ _ _ _ _ ⟨B, F, X, N, T⟩ hk hd hu fun r n' h'' tk' hr F'' N'' => q r n' h'' tk' hr F'' N''
end
theorem IntsAre.snoc {vs : List Value} {xs : List Int} {v : Value} {k : Int} (h : IntsAre vs xs) (hv : IsI k v) : IntsAre (vs ++ [v]) (xs ++ [k]) := by
  induction h with
  | nil => obtain ⟨t, rfl⟩ := hv; exact .cons k t .nil
  | cons n t _ ih => exact .cons n t ih
theorem st_tupV {w : World} {a : At} {news : Led} {cn : Str} {cs : Scope} {L f : Addr} {ccd : Value} {cl : List (Str × Addr)} {s : Shared} {bd rest : List Stmt} {Q : Flow → Shared → Prop} {E : Value → Shared → Prop} {pos tpos vpos : Pos} {ts es : List Expr} {k1 k2 : Nat} {P : List Value → Led → Prop} {nn : Nat}
    (henv : a.env = envX cn cs L f ccd cl) (hh : a.A.handled = none) (hb : bd = .Assign [.Tuple ts k1 tpos] (.Tuple es k2 vpos) pos :: rest) (F : Fr a.g a.L s.heap a.m) (N : News a.g a.L s.heap news) (ev : ∀ l, l = es → EVs w a news l P) (hlen : ∀ vs n, P vs n → vs.length = nn) (hsz : nn ≤ 100)
    (hn : (assignEach ts (envX cn cs L f ccd cl)).length = nn) (hstar : (assignEach ts (envX cn cs L f ccd cl)).findIdx? (·.1) = none)
    (k : ∀ vs n h' tk bd', bd' = rest → P vs n → Fr a.g a.L h' a.m → News a.g a.L h' n → wpAny (model pr w) a.A (assignInOrder ((assignEach ts (envX cn cs L f ccd cl)).map (·.2)) vs) (fun _ s' => wpAny (model pr w) a.A (execs bd' (envX cn cs L f ccd cl)) Q E s') E { s with heap := h', toks := tk })
    (hs : swapsWithSole [.Tuple ts k1 tpos] (.Tuple es k2 vpos) pos.line (envX cn cs L f ccd cl) = pure false := by rfl)
    (hw : swappedStores [.Tuple ts k1 tpos] (.Tuple es k2 vpos) (envX cn cs L f ccd cl) = pure none := by rfl) :
    wpAny (model pr w) a.A (execs bd (envX cn cs L f ccd cl)) Q E s := by
  subst hb
  have ev' := ev es rfl
  refine wpAny_execs_cons (Assign_Tuple (Tuple_ ?_) hs hw)
  rw [← henv]
  refine ev' _ _ _ _ F N fun vs n h' tk p F' N' => ?_
  have hl := hlen vs n p
  refine newTuple_N (s := { s with heap := h', toks := tk }) F' N' (fun h2 F2 N2 => ?_) (Nat.le_trans (hl ▸ hsz) (by decide))
  rw [henv]
  refine unpackN_ (s := { s with heap := h2, toks := tk }) F2 N2 (News.isTup N2 (.head _)) hh (by rw [hn]; simp [hl]) hstar fun h3 F3 N3 => ?_
  exact k vs n h3 tk rest rfl p F3 (News.sub N3 fun p hp => .tail _ hp)
noncomputable def sScope : Scope := match bdF41 with | .Assign _ (.Tuple [_, .Compare (.Call _ [.ListComp _ _ s _] _ _) _ _ _, _, _] _ _) _ :: _ => s | _ => { kind := .function, names := [], isGenerator := false, isCoroutine := false }
theorem RowsAt.off {w : World} {g h : Heap} {L d r : Addr} {n : Led} {od : Obj} (N : News g L h n) (hd : (d, od) ∈ n) (hc : ∀ items, IsL od items → items[7]? = none) (hne : r ≠ d) (hr : RowsAt w n r) : RowsAt w (offL d n) r := by
  obtain ⟨rod, kvs, hm, hod, lo, hk⟩ := hr
  exact ⟨rod, kvs, offL_mem hm hne, hod, lo, (show RowsKV n kvs rowsT from hk).mono fun v xs hx => RowAt.off N hd hc hx⟩
theorem news_ne {g h : Heap} {L : Addr} {n : Led} {p q : Addr × Obj} (N : News g L h n) (hp : p ∈ n) (hq : q ∈ n) (hne : p.2.data ≠ q.2.data) : p.1 ≠ q.1 := fun e => by
  have e1 := (N p hp).1
  have e2 := (N q hq).1
  rw [e, e2] at e1
  exact hne (by rw [Option.some.inj e1])
section
variable {w : World} {mean : ExcName → Option Value} {mg mb : Str → Option Value} {A₀ : Around} {g : Heap} {L fa : Addr} {cd : Value} {m : Str → Option Value} {dp un : Nat} {gd : Option (List Code)}
theorem EV.sumComp {news : Led} {l : Addr} {items : Array Value} {xs : List Int} {e : Expr} {p p2 p3 px py cpos : Pos} (X : (K0 w.params).In g) (T : Top qv (looseW qv looseL) mean mg mb g) (hl : g.IsList l items) (hi : IntsAre items.toList xs) (hsz : items.size ≤ 63) (hm : m "script" = some (.ref l))
    (he : e = .ListComp (.Call (.Name "abs" p) [.Name "cell" p2] [] p3) [⟨.Name "cell" px, .Name "script" py, [], 0⟩] sScope cpos) :
    EV w (lAt dp un gd g L fa cd m) news e (fun v n => ∃ l o items xs, v = .ref l ∧ (l, o) ∈ n ∧ IsL o items ∧ IntsAre items.toList xs ∧ ∀ p ∈ news, p ∈ n) := by
  subst he
  intro s Q E F N q
  refine ListComp_U F (cl := []) (by rfl) (by decide) rfl (by decide) (by rfl) ?_
  refine nameX_L F hm ?_
  refine CompSrc.base (news := news) rfl F N hl (Nat.le_trans hsz (by decide)) fun gg => ?_
  refine compRest (fun i ys n => (∃ zs, IntsAre ys zs) ∧ n = news) items.size (fun i v ys n I oI C oC D m₂ h tk E' hi' hP hJ hN hx F2 N2 off ne => ?_) (fun ys n hJ => ?_) _ 0 [] _ (by omega) ⟨⟨[], .nil⟩, rfl⟩
  · obtain ⟨⟨zs, hz⟩, rfl⟩ := hJ
    obtain ⟨k, hk, t, rfl⟩ := intsAre_at hi i v (by simpa using hP)
    let led := (I, oI) :: (C, oC) :: (D, lst ys) :: n
    let a : At := ⟨lA dp un gd L fa cd, compEnvC sScope [] C (lE L fa cd), g, L, m⟩
    refine EV.absU (a := a) (scope := sScope) (ccl := []) (C := C) (env := lE L fa cd) rfl rfl rfl X T ((EV.compName (a := a) (news := led) (scope := sScope) (cl := []) (C := C) (env := lE L fa cd) rfl hN (.tail _ (.head _)) hx rfl rfl).mono fun v n hv => (⟨⟨t, hv.1⟩, hv.2⟩ : Same led (IsI k) v n)) rfl rfl rfl _ _ _ F2 N2 fun v n' h' tk' hv F' N' => ?_
    obtain ⟨hv, rfl⟩ := hv
    exact .intro F' N' n (fun p hp => hp) off (.inl hl) ⟨⟨_, Mine.IntsAre.snoc hz hv⟩, rfl⟩
  · obtain ⟨⟨zs, hz⟩, rfl⟩ := hJ
    intro D h tk F N o1
    exact q _ _ h tk ⟨D, _, ys.toArray, zs, rfl, .head _, ⟨rfl, _, rfl⟩, by simpa using hz, fun p hp => .tail _ hp⟩ F N
theorem l_s0 {s : Shared} {Q : Flow → Shared → Prop} {E : Value → Shared → Prop} {oc : Obj} {v0 : Option Value} {l : Addr} {items : Array Value} {xs : List Int} (B : Below A₀ g [] g) (X : (K0 w.params).In g) (T : Top qv (looseW qv looseL) mean mg mb g) (hd : dp + 7 ≤ 900) (hu : un + 140 ≤ 9000)
    (F : Fr g L s.heap m) (N : News g L s.heap [(L + 1, oc)]) (hoc : oc.data = .cell v0) (hm : m "script" = some (.ref l)) (hl : g.IsList l items) (hi : IntsAre items.toList xs) (hsz : items.size ≤ 63)
    (k : ∀ h tk bd sm tp cl md r od ot t base m', bd = bdF41.drop 1 → Fr g L h m' → News g L h ((tp, ot) :: (md, od) :: base) → IsL ot #[.ref cl, .int 0 t] → TF tp cl (L + 1) [] ((md, od) :: base) → (∀ p ∈ base, p.1 ≠ md) → od.IsDictOf (strKind pr w) [] → (md == sysModules) = false → RowsAt w base r →
      m' "small" = some (.bool sm) → m' "met" = some (.ref md) → m' "rows" = some (.ref r) → wpAny (model pr w) (lA dp un gd L fa cd) (execs bd (lE L fa cd)) Q E { s with heap := h, toks := tk }) :
    wpAny (model pr w) (lA dp un gd L fa cd) (execs bdF41 (lE L fa cd)) Q E s := by
  have nmV := fun {h : Heap} {m : Str → Option Value} (F : Fr g L h m) (y : Str) (p : Pos) (v : Value) (e : m y = some v) hx hd => PV.name (P := (· = v)) (prog := pr) (w := w) (A := lA dp un gd L fa cd) (cn := "law") (cs := scF41) (L := L) (a := fa) (ccd := cd) (cl := [("tape", L + 1)]) (x := y) (pos := p) F e rfl rfl hx hd
  have hia : IntsAre (slicePick items none (some 40) none).toList (xs.take 40) := by
    have := slice_ints_uptoW (vs := items.toList) hi (y := 40) (by decide)
    simpa using this
  have hz : (slicePick items none (some 40) none).size ≤ 40 := by
    have := IntsAre.len hia
    rw [Array.length_toList] at this
    rw [this, List.length_take]
    omega
  obtain ⟨bd, hbd⟩ : ∃ bd, bd = bdF41 := ⟨_, rfl⟩
  rw [← hbd]
  refine st_tupV (a := lAt dp un gd g L fa cd m) (nn := 4) (P := fun vs n => ∃ tp ot cl ocl t sm md od r, vs = [.ref tp, .bool sm, .ref md, .ref r] ∧ (tp, ot) ∈ n ∧ IsL ot #[.ref cl, .int 0 t] ∧ (cl, ocl) ∈ n ∧ IsL ocl (slicePick items none (some 40) none) ∧ (md, od) ∈ n ∧ od.IsDictOf (strKind pr w) [] ∧ (md == sysModules) = false ∧ RowsAt w n r ∧ (L + 1, oc) ∈ n ∧ cl ≠ tp) rfl rfl (hbd.trans rfl) F N (fun l0 h0 => ?_) (fun vs n hv => by obtain ⟨tp, ot, cl, ocl, t, sm, md, od, r, rfl, -⟩ := hv; rfl) (by decide) (by rfl) (by rfl) ?_
  · refine .xV h0 (EV.listV (P := fun vs n' => ∃ c t, vs = [.ref c, .int 0 t] ∧ n' = (c, (⟨.type "list", none, .seq (slicePick items none (some 40) none) 0, #[]⟩ : Obj)) :: [(L + 1, oc)]) rfl (fun l1 h1 => ?_) (fun vs n hv => by obtain ⟨c, t, rfl, -⟩ := hv; exact (show 2 ≤ 100 by decide))) (fun l1 h1 v1 n1 hv1 => ?_)
    · refine .xV h1 (EV.sliceTo rfl (fun v' hv => hv ▸ .pv fun h F N => nmV F "script" _ _ hm rfl (by decide)) hl (by omega)) fun l2 h2 v n hv => ?_
      obtain ⟨c, rfl, rfl⟩ := hv
      exact .cV h2 (.pv fun h F N => .const 0 _ _) fun l3 h3 t => .nV h3 ⟨c, t, rfl, rfl⟩
    obtain ⟨tp, vs, n0, rfl, ⟨cl, t, rfl, rfl⟩, rfl, hne⟩ := hv1
    refine .xV h1 (EV.ltV rfl (fun l' hl' => EV.sumL (cn := "law") (cs := scF41) (f0 := fa) (ccd := cd) (cl := [("tape", L + 1)]) rfl rfl rfl X T hl' fun e2 he2 => EV.sumComp X T hl hi hsz hm he2) (.pv fun h F N => .const 2 _ _)) fun l2 h2 v2 n2 hv2 => ?_
    obtain ⟨⟨sm, rfl⟩, rfl⟩ := hv2
    refine .xV h2 (EV.dict0 T.nolimit) fun l3 h3 v3 n3 hv3 => ?_
    obtain ⟨md, od, rfl, rfl, hod, lo, hlt⟩ := hv3
    refine .xV h3 (EV.call0 (a := lAt dp un gd g L fa cd m) (cn := "law") (cs := scF41) (f0 := fa) (ccd := cd) (cl := [("tape", L + 1)]) rfl B X T (f := 1094) (d := 3) (by kernel_rfl) (by kernel_rfl) rowsC (by omega) (by omega)) fun l4 h4 v4 n4 hv4 => ?_
    obtain ⟨r, rfl, hr, hs⟩ := hv4
    exact .nV h4 ⟨tp, _, cl, _, t, sm, md, od, r, rfl, hs _ (.tail _ (.head _)), isL_new _ 0, hs _ (.tail _ (.tail _ (.head _))), isL_new _ 0, hs _ (.head _), hod, lo, hr, hs _ (.tail _ (.tail _ (.tail _ (.head _)))), hne _ (.head _)⟩
  intro vs n h1 tk1 bd1 hb1 hv F1 N1
  obtain ⟨tp, ot, cl, ocl, t, sm, md, od, r, rfl, htp, hot, hcl, hocl, hmd, hod, lo, hr, hc, hclt⟩ := hv
  obtain ⟨-, kt, hotd⟩ := id hot
  obtain ⟨-, kc, hocd⟩ := id hocl
  obtain ⟨rod, rkv, hrm, hrod, rlo, hrk⟩ := id hr
  obtain ⟨es, ep, -, hodd, -, hodp, -⟩ := id hod
  obtain ⟨res, rep, -, hrodd, -, hrodp, -⟩ := id hrod
  have n1 : tp ≠ L + 1 := news_ne N1 htp hc (by rw [hotd, hoc]; exact fun z => by cases z)
  have n2 : cl ≠ L + 1 := news_ne N1 hcl hc (by rw [hocd, hoc]; exact fun z => by cases z)
  have n3 : md ≠ L + 1 := news_ne N1 hmd hc (by rw [hodd, hoc]; exact fun z => by cases z)
  have n4 : r ≠ L + 1 := news_ne N1 hrm hc (by rw [hrodd, hoc]; exact fun z => by cases z)
  have n5 : md ≠ tp := news_ne N1 hmd htp (by rw [hodd, hotd]; exact fun z => by cases z)
  have n6 : cl ≠ md := news_ne N1 hcl hmd (by rw [hodd, hocd]; exact fun z => by cases z)
  have n7 : r ≠ tp := news_ne N1 hrm htp (by rw [hrodd, hotd]; exact fun z => by cases z)
  have n8 : r ≠ md := news_ne N1 hrm hmd (by
    show rod.data ≠ od.data
    rw [hrodd, hodd]
    intro z
    injection z with z1 z2
    have e1 : es.toList.length = 0 := hodp.length
    have e2 : res.toList.length = rkv.length := hrodp.length
    rw [z1, e1] at e2
    have z3 := hrk 0
    have e3 : rkv = [] := List.length_eq_zero_iff.mp e2.symm
    rw [e3] at z3
    obtain ⟨v, hv, -⟩ := z3
    cases hv)
  have N2 : News g L h1 ((L + 1, oc) :: offL (L + 1) n) := News.sub N1 fun p hp => by
    rcases List.mem_cons.mp hp with rfl | hp
    · exact hc
    · exact offL_sub p hp
  have hr1 : RowsAt w (offL (L + 1) n) r := RowsAt.off N1 hc (fun items hl => by obtain ⟨-, j, e⟩ := hl; rw [hoc] at e; cases e) n4 hr
  have N1' : News g L h1 (offL (L + 1) n) := News.sub N1 offL_sub
  have hr2 : RowsAt w (offL tp (offL (L + 1) n)) r := RowsAt.off N1' (offL_mem htp n1) (fun items hl => by
    obtain ⟨-, j, e⟩ := hl
    rw [hotd] at e
    injection e with e1 e2
    rw [← e1]; rfl) n7 hr1
  have N1'' : News g L h1 (offL tp (offL (L + 1) n)) := News.sub N1' offL_sub
  have hr3 : RowsAt w (offL md (offL tp (offL (L + 1) n))) r := RowsAt.off N1'' (offL_mem (offL_mem hmd n3) n5) (not_list_dict hodd) n8 hr2
  refine assignInOrder_cons (assign_Name (storeX_C (s := { s with heap := h1, toks := tk1 }) (c := L + 1) F1 N2 rfl (.head offL_ne) hoc fun h2 oc2 F2 N3 hoc2 => ?_))
  refine assignInOrder_cons (assign_Name (storeX_L F2 N3 fun h3 F3 N4 => ?_))
  refine assignInOrder_cons (assign_Name (storeX_L F3 N4 fun h4 F4 N5 => ?_))
  refine assignInOrder_cons (assign_Name (storeX_L F4 N5 fun h5 F5 N6 => ?_))
  refine assignInOrder_nil ?_
  refine k h5 _ bd1 sm tp cl md r od ot t ((L + 1, oc2) :: offL md (offL tp (offL (L + 1) n))) _ hb1 F5 (News.sub N6 fun p hp => ?_) hot ⟨⟨ocl, _, _, .tail _ (.tail _ (offL_mem (offL_mem (offL_mem hcl n2) hclt) n6)), hocl, hia, Nat.lt_of_le_of_lt hz (by decide)⟩, ⟨oc2, .tail _ (.head _), hoc2⟩, fun p hp => ?_⟩ (fun p hp => ?_) hod lo (hr3.up fun p hp => .tail _ hp) rfl rfl rfl
  · rcases List.mem_cons.mp hp with rfl | hp
    · exact .tail _ (offL_mem htp n1)
    rcases List.mem_cons.mp hp with rfl | hp
    · exact .tail _ (offL_mem hmd n3)
    rcases List.mem_cons.mp hp with rfl | hp
    · exact .head _
    · exact .tail _ (offL_sub _ (offL_sub _ hp))
  · rcases List.mem_cons.mp hp with rfl | hp
    · exact n5
    rcases List.mem_cons.mp hp with rfl | hp
    · exact fun z => n1 z.symm
    · exact offL_ne _ (offL_sub _ hp)
  · rcases List.mem_cons.mp hp with rfl | hp
    · exact fun z => n3 z.symm
    · exact offL_ne _ hp
end
noncomputable def tScope : Scope := match bdF41 with | _ :: .Assign _ (.ListComp _ _ s _) _ :: _ => s | _ => { kind := .function, names := [], isGenerator := false, isCoroutine := false }
theorem st_unpackLV {w : World} {a : At} {news : Led} {cn : Str} {cs : Scope} {L f : Addr} {ccd : Value} {cl : List (Str × Addr)} {s : Shared} {bd rest : List Stmt} {Q : Flow → Shared → Prop} {E : Value → Shared → Prop} {pos tpos : Pos} {ts : List Expr} {e : Expr} {k1 : Nat} {R : Array Value → Led → Prop} {nn : Nat}
    (henv : a.env = envX cn cs L f ccd cl) (hh : a.A.handled = none) (hb : bd = .Assign [.Tuple ts k1 tpos] e pos :: rest) (F : Fr a.g a.L s.heap a.m) (N : News a.g a.L s.heap news) (ev : ∀ e', e' = e → EV w a news e' (ListV R)) (hlen : ∀ it n, R it n → it.size = nn)
    (hn : (assignEach ts (envX cn cs L f ccd cl)).length = nn) (hstar : (assignEach ts (envX cn cs L f ccd cl)).findIdx? (·.1) = none)
    (k : ∀ it n h' tk bd', bd' = rest → R it n → Fr a.g a.L h' a.m → News a.g a.L h' n → wpAny (model pr w) a.A (assignInOrder ((assignEach ts (envX cn cs L f ccd cl)).map (·.2)) it.toList) (fun _ s' => wpAny (model pr w) a.A (execs bd' (envX cn cs L f ccd cl)) Q E s') E { s with heap := h', toks := tk })
    (hs : swapsWithSole [.Tuple ts k1 tpos] e pos.line (envX cn cs L f ccd cl) = pure false := by rfl)
    (hw : swappedStores [.Tuple ts k1 tpos] e (envX cn cs L f ccd cl) = pure none := by rfl) :
    wpAny (model pr w) a.A (execs bd (envX cn cs L f ccd cl)) Q E s := by
  subst hb
  have ev' := ev e rfl
  unfold EV at ev'
  rw [henv] at ev'
  refine wpAny_execs_cons (Assign_Tuple (ev' s _ _ F N fun v n h' tk p F' N' => ?_) hs hw)
  obtain ⟨l, o, it, rfl, hm, hl, hR⟩ := p
  refine kun_list (s := { s with heap := h', toks := tk }) F' N' (⟨o, N'.get hm, hl⟩ : h'.IsList l it) hh (by rw [hn, hlen it n hR]) hstar fun h3 F3 N3 => ?_
  exact k it n h3 tk rest rfl hR F3 N3
section
variable {w : World} {mean : ExcName → Option Value} {mg mb : Str → Option Value} {A₀ : Around} {g : Heap} {L fa : Addr} {cd : Value} {m : Str → Option Value} {dp un : Nat} {gd : Option (List Code)} {pre post : Led} {tp cl : Addr}
theorem EV.takes {n : Led} {e : Expr} {p p2 p3 p4 p5 p6 np px cpos : Pos} {kk k3 : Nat} (B : Below A₀ g [] g) (X : (K0 w.params).In g) (T : Top qv (looseW qv looseL) mean mg mb g) (hd : dp + 7 ≤ 900) (hu : un + 140 ≤ 9000) (tf : TF tp cl (L + 1) pre post) (hn : TapeL tp cl pre post 0 n)
    (he : e = .ListComp (.Call (.Name "_law_take" p) [.Name "tape" p2, .Constant (.int 32) kk p3] [] p4) [⟨.Name "k" px, .Call (.Name "range" np) [.Constant (.int 3) k3 p5] [] p6, [], 0⟩] tScope cpos) :
    EV w (lAt dp un gd g L fa cd m) n e (ListV fun it n' => (∃ js, IntsAre it.toList js ∧ js.length = 3 ∧ ∀ j ∈ js, 0 ≤ j ∧ j < 32) ∧ ∃ x n1, n' = x :: n1 ∧ TapeL tp cl pre post 3 n1) := by
  subst he
  intro s Q E F N q
  obtain ⟨⟨oc, items, xs, hcm, hoc, hi, hz⟩, ⟨occ, hmc, hcell⟩, hap⟩ := tf
  refine ListComp_U F (cl := [("tape", L + 1)]) (by rfl) (by decide) rfl (by decide) (by rfl) ?_
  refine EV.use (a := lAt dp un gd g L fa cd m) F N (EV.range (n := 3) (cn := "law") (cs := scF41) (L := L) (f0 := fa) (ccd := cd) (cl := [("tape", L + 1)]) rfl rfl X T) fun v n' h1 tk1 hv F1 N1 => ?_
  obtain ⟨rr, t, u, v', rfl, rfl⟩ := hv
  refine CompSrc.range (n := 3) (news := n) rfl F1 (News.sub N1 fun p hp => .tail _ hp) (N1.get (.head _)) (by decide) (by decide) (by decide) fun gg => ?_
  refine compRest (fun i ys n => (∃ js, IntsAre ys js ∧ js.length = i ∧ ∀ j ∈ js, 0 ≤ j ∧ j < 32) ∧ TapeL tp cl pre post i n) 3 (fun i v ys n I oI C oC D m₂ h tk E' hi3 hP hJ hN hx F2 N2 off ne => ?_) (fun ys n hJ => ?_) _ 0 [] _ (by omega) ⟨⟨[], .nil, rfl, fun j hj => by cases hj⟩, hn⟩
  · obtain ⟨⟨js, hjs, hjl, hjr⟩, ot, tt, rfl, hot⟩ := hJ
    have hoff := off.mem
    have htp := hoff (tp, ot) (List.mem_append_right _ (.head _))
    have hm' : (L + 1, occ) ∈ pre ++ (tp, ot) :: post := mid_up _ hmc
    let led := (I, oI) :: (C, oC) :: (D, lst ys) :: (pre ++ (tp, ot) :: post)
    let a : At := ⟨lA dp un gd L fa cd, compEnvC tScope [("tape", L + 1)] C (lE L fa cd), g, L, m⟩
    refine EV.callU (a := a) (news := led) (cn := "law") (cs := scF41) (L := L) (f0 := fa) (ccd := cd) (cl := [("tape", L + 1)]) (scope := tScope) (ccl := [("tape", L + 1)]) (C := C) (env := lE L fa cd) (outer := []) rfl rfl B X T (f := 1084) (d := 1) (Pa := fun vs n' => ∃ t, vs = [.ref tp, .int 32 t] ∧ n' = led) (by kernel_rfl) (by kernel_rfl)
      (.consV (.compCell (a := a) (scope := tScope) (cl := [("tape", L + 1)]) (C := C) (env := lE L fa cd) rfl rfl (.tail _ (.tail _ (.tail _ hm'))) hcell rfl rfl) (.consI (.pv fun h F N => .const 32 _ _) fun t => .nil ⟨t, rfl, rfl⟩))
      (P := fun v n' => (∃ j, 0 ≤ j ∧ j < 32 ∧ IsI j v) ∧ TapeL tp cl ((I, oI) :: (C, oC) :: (D, lst ys) :: pre) post (i + 1) n') (fun vs n' h => by
        obtain ⟨t, e1, e2⟩ := h
        rw [e1, e2]
        refine take (k := (i : Int)) (oc := oc) (items := items) (xs := xs) ⟨ot, tt, rfl, hot⟩ ?_ hoc hi hz (fun p hp => ?_) (by omega) (by omega) (by decide)
        · exact .tail _ (.tail _ (.tail _ hcm))
        · rcases List.mem_cons.mp hp with rfl | hp
          · exact fun z => htp.1 z.symm
          rcases List.mem_cons.mp hp with rfl | hp
          · exact fun z => htp.2.1 z.symm
          rcases List.mem_cons.mp hp with rfl | hp
          · exact fun z => htp.2.2 z.symm
          · exact hap p hp) (by omega) (by omega) rfl rfl rfl (by decide) (by rfl) (by rfl) _ _ _ F2 N2 fun v n' h' tk' hv F' N' => ?_
    obtain ⟨⟨j, j0, j1, hj⟩, o', t', rfl, ho'⟩ := hv
    refine .intro F' N' (pre ++ (tp, o') :: post) (fun p hp => hp) (Off3.of fun p hp => ?_) trivial ⟨⟨js ++ [j], Mine.IntsAre.snoc hjs hj, by rw [List.length_append, hjl]; rfl, fun z hz => ?_⟩, o', t', rfl, by simpa using ho'⟩
    · rcases List.mem_append.mp hp with hp | hp
      · exact hoff p (List.mem_append_left _ hp)
      rcases List.mem_cons.mp hp with rfl | hp
      · exact htp
      · exact hoff p (List.mem_append_right _ (.tail _ hp))
    · rcases List.mem_append.mp hz with hz | hz
      · exact hjr z hz
      · rw [List.mem_singleton.mp hz]; exact ⟨j0, j1⟩
  · obtain ⟨⟨js, hjs, hjl, hjr⟩, ht⟩ := hJ
    intro D h tk F N o1
    exact q _ _ h tk ⟨D, _, ys.toArray, rfl, .head _, ⟨rfl, _, rfl⟩, ⟨js, by simpa using hjs, hjl, hjr⟩, _, n, rfl, ht⟩ F N
theorem l_s1 {s : Shared} {Q : Flow → Shared → Prop} {E : Value → Shared → Prop} {n : Led} {bd : List Stmt} (B : Below A₀ g [] g) (X : (K0 w.params).In g) (T : Top qv (looseW qv looseL) mean mg mb g) (hd : dp + 7 ≤ 900) (hu : un + 140 ≤ 9000)
    (F : Fr g L s.heap m) (N : News g L s.heap n) (tf : TF tp cl (L + 1) pre post) (hn : TapeL tp cl pre post 0 n) (hbd : bd = bdF41.drop 1)
    (k : ∀ h tk bd' rd one other t1 t2 t3 n', bd' = bdF41.drop 2 → Fr g L h (fun y => if y = "other" then some (.int other t3) else if y = "one" then some (.int one t2) else if y = "rd" then some (.int rd t1) else m y) → News g L h n' → TapeL tp cl pre post 3 n' → 0 ≤ rd → rd < 32 → 0 ≤ one → one < 32 → 0 ≤ other → other < 32 →
      wpAny (model pr w) (lA dp un gd L fa cd) (execs bd' (lE L fa cd)) Q E { s with heap := h, toks := tk }) :
    wpAny (model pr w) (lA dp un gd L fa cd) (execs bd (lE L fa cd)) Q E s := by
  refine st_unpackLV (a := lAt dp un gd g L fa cd m) (nn := 3) rfl rfl (hbd.trans rfl) F N (fun e' he => EV.takes B X T hd hu tf hn he) (fun it n hv => by
    obtain ⟨⟨js, h1, h2, -⟩, -⟩ := hv
    rw [← Array.length_toList, IntsAre.len h1, h2]) (by rfl) (by rfl) ?_
  rintro it n1 h1 tk1 bd1 hb1 ⟨⟨js, hjs, hjl, hjr⟩, x, n2, rfl, ht⟩ F1 N1
  match js, hjl with
  | [rd, one, other], _ =>
  generalize it.toList = vs at hjs ⊢
  cases hjs with
  | cons _ t1 hjs =>
  cases hjs with
  | cons _ t2 hjs =>
  cases hjs with
  | cons _ t3 hjs =>
  cases hjs
  refine assignInOrder_cons (assign_Name (storeX_L (s := { s with heap := h1, toks := tk1 }) F1 N1 fun h3 F3 N4 => ?_))
  refine assignInOrder_cons (assign_Name (storeX_L F3 N4 fun h4 F4 N5 => ?_))
  refine assignInOrder_cons (assign_Name (storeX_L F4 N5 fun h5 F5 N6 => ?_))
  refine assignInOrder_nil ?_
  obtain ⟨a1, a2⟩ := hjr rd (by simp)
  obtain ⟨b1, b2⟩ := hjr one (by simp)
  obtain ⟨c1, c2⟩ := hjr other (by simp)
  exact k h5 _ bd1 rd one other t1 t2 t3 n2 hb1 F5 (News.sub N6 fun p hp => .tail _ hp) ht a1 a2 b1 b2 c1 c2
end
theorem TF.cons {tp cl c : Addr} {pre post : Led} {x : Addr × Obj} (t : TF tp cl c pre post) (hx : x.1 ≠ tp) : TF tp cl c (x :: pre) post := by
  obtain ⟨⟨oc, items, xs, h1, h2⟩, ⟨occ, h3, h4⟩, hap⟩ := t
  exact ⟨⟨oc, items, xs, .tail _ h1, h2⟩, ⟨occ, .tail _ h3, h4⟩, fun p hp => by
    rcases List.mem_cons.mp hp with rfl | hp
    · exact hx
    · exact hap p hp⟩
theorem TapeL.cons {tp cl : Addr} {pre post n : Led} {x : Addr × Obj} {k : Int} (t : TapeL tp cl pre post k n) : TapeL tp cl (x :: pre) post k (x :: n) := by
  obtain ⟨o, u, rfl, ho⟩ := t
  exact ⟨o, u, rfl, ho⟩
theorem TapeL.uncons {tp cl : Addr} {pre post n : Led} {x : Addr × Obj} {k : Int} (t : TapeL tp cl (x :: pre) post k n) : ∃ n1, n = x :: n1 ∧ TapeL tp cl pre post k n1 := by
  obtain ⟨o, u, rfl, ho⟩ := t
  exact ⟨_, rfl, o, u, rfl, ho⟩
section
variable {w : World} {a : At} {news : Led}
theorem EV.ite2 {e t x y : Expr} {pos : Pos} {Pn : Led → Prop} {P : Value → Led → Prop} (he : e = .IfExp t x y pos)
    (T : ∀ (s : Shared) (Q : Bool → Shared → Prop) (E : Value → Shared → Prop), Fr a.g a.L s.heap a.m → News a.g a.L s.heap news → (∀ b n h tk, Pn n → Fr a.g a.L h a.m → News a.g a.L h n → Q b { s with heap := h, toks := tk }) → wpAny (model pr w) a.A (isTrue t a.env (eval t a.env)) Q E s)
    (X : ∀ n, Pn n → EV w a n x P) (Y : ∀ n, Pn n → EV w a n y P) : EV w a news e P := by
  subst he
  intro s Q E F N q
  refine wpAny_IfExp (T s _ _ F N fun b n h' tk hn F' N' => ?_)
  cases b with
  | true => exact X n hn _ _ _ F' N' fun v n h'' tk' p F'' N'' => q v n h'' tk' p F'' N''
  | false => exact Y n hn _ _ _ F' N' fun v n h'' tk' p F'' N'' => q v n h'' tk' p F'' N''
theorem test_eq {l r : Expr} {pos : Pos} {Pn : Led → Prop} {p : Int → Prop} {k : Int} (x : EV w a news l (fun v n => IntP p v ∧ Pn n)) (y : ∀ n, EV w a n r (Same n (IsI k))) (hm : behindInMarks .Eq r = false := by with_unfolding_all rfl) :
    ∀ (s : Shared) (Q : Bool → Shared → Prop) (E : Value → Shared → Prop), Fr a.g a.L s.heap a.m → News a.g a.L s.heap news → (∀ b n h tk, Pn n → Fr a.g a.L h a.m → News a.g a.L h n → Q b { s with heap := h, toks := tk }) → wpAny (model pr w) a.A (isTrue (.Compare l [.Eq] [r] pos) a.env (eval (.Compare l [.Eq] [r] pos) a.env)) Q E s := fun s Q E F N q => by
  refine wpAny_isTrue_Compare1 (x s _ _ F N fun v n h1 tk hv F1 N1 => ?_) hm
  obtain ⟨⟨i, -, t, rfl⟩, hn⟩ := hv
  refine y n _ _ _ F1 N1 fun v n' h2 tk' hv F2 N2 => ?_
  obtain ⟨⟨t', rfl⟩, rfl⟩ := hv
  exact PyProof.Rows.eq_int (wpAny_truthy_bool (q _ n' h2 _ hn F2 N2))
theorem EV.itemT {e value slice : Expr} {pos : Pos} {R : Addr → Obj → Array Value → Led → Prop} {R' : Value → Led → Prop} (he : e = .Subscript value slice pos)
    (x : ∀ v', v' = value → EV w a news v' (fun v n => ∃ l o items, v = .ref l ∧ IsL o items ∧ R l o items n))
    (y : ∀ l o items n, IsL o items → R l o items n → EV w a n slice (fun v n' => ∃ j, 0 ≤ j ∧ j < 2 ^ 63 ∧ IsI j v ∧ (l, o) ∈ n' ∧ ∃ u, items[j.toNat]? = some u ∧ R' u n'))
    (hs' : ∀ l k t, subscripted slice false (.ref l) (.int k t) = operate [.ref l, .int k t] (getItem (.ref l) (.int k t)) := by intro _ _ _; with_unfolding_all rfl) :
    EV w a news e R' := by
  subst he
  intro s Q E F N q
  refine Subscript_ (x value rfl s _ _ F N fun u n h1' tk hu F1 N1 => ?_)
  obtain ⟨l, o, items, rfl, hL, hR⟩ := hu
  refine y l o items n hL hR _ _ _ F1 N1 fun i n' h2 tk' hi F2 N2 => ?_
  obtain ⟨j, j0, j1, ⟨t, rfl⟩, hm, v, hv, hR'⟩ := hi
  have hl : h2.IsList l items := ⟨o, N2.get hm, hL⟩
  exact tail_any (s := { s with heap := h2, toks := tk' }) (T := "list") ⟨_, N2.get hm, hL.1⟩ slot_list_getitem.lookup (wpAny_getItem_list hl j0 j1 hv (q v n' h2 _ hR' F2 N2)) (hs' l j t)
end
section
variable {w : World} {mean : ExcName → Option Value} {mg mb : Str → Option Value} {A₀ : Around} {g : Heap} {L fa : Addr} {cd : Value} {m : Str → Option Value} {dp un : Nat} {gd : Option (List Code)} {pre post : Led} {tp cl : Addr}
theorem EV.pick {n : Led} {k c : Int} {e : Expr} {elts : List Expr} {lp pos p p2 p3 p4 : Pos} {kk : Nat} {ns : List Int} {q : Int → Prop} (B : Below A₀ g [] g) (X : (K0 w.params).In g) (T : Top qv (looseW qv looseL) mean mg mb g) (hd : dp + 7 ≤ 900) (hu : un + 140 ≤ 9000) (tf : TF tp cl (L + 1) pre post) (hn : TapeL tp cl pre post k n) (h0 : 0 ≤ k) (h1 : k < 2 ^ 20) (hc : 0 < c) (hcn : c.toNat ≤ ns.length) (hl : ns.length ≤ 100) (hq : ∀ x ∈ ns, q x)
    (he : e = .Subscript (.List elts lp) (.Call (.Name "_law_take" p) [.Name "tape" p2, .Constant (.int c) kk p3] [] p4) pos) (hcs : IsCs elts (ns.map Cst.i)) :
    EV w (lAt dp un gd g L fa cd m) n e (fun v n' => IntP q v ∧ ∃ x n1, n' = x :: n1 ∧ TapeL tp cl pre post (k + 1) n1) := by
  refine EV.itemT (R := fun l o items n' => (∃ vs, items = vs.toArray ∧ AreC vs (ns.map Cst.i)) ∧ n' = (l, o) :: n ∧ ∀ p ∈ n, p.1 ≠ l) he (fun v' hv => (EV.listC hv hcs (by rw [List.length_map]; exact hl)).mono fun v n' hv => ?_) (fun l o items n' hL hR => ?_)
  · obtain ⟨l, vs, rfl, ha, rfl, hne⟩ := hv
    exact ⟨l, _, _, rfl, isL_new _ 0, ⟨vs, rfl, ha⟩, rfl, hne⟩
  · obtain ⟨⟨vs, rfl, ha⟩, rfl, hne⟩ := hR
    have htl : tp ≠ l := by
      obtain ⟨o2, t2, rfl, -⟩ := hn
      exact hne (tp, o2) (List.mem_append_right _ (.head _))
    refine (l_take B X T hd hu (tf.cons (x := (l, o)) fun z => htl z.symm) hn.cons h0 h1 hc).mono fun v n' hv => ?_
    obtain ⟨⟨j, ⟨j0, j1⟩, hj⟩, hn'⟩ := hv
    obtain ⟨n1, rfl, hn1⟩ := hn'.uncons
    have hia := intsAre_of ha ns rfl
    have hlen := IntsAre.len hia
    obtain ⟨u, hu⟩ : ∃ u, vs[j.toNat]? = some u := ⟨_, List.getElem?_eq_getElem (by omega)⟩
    obtain ⟨i, hi, hiu⟩ := intsAre_at hia _ _ hu
    refine ⟨j, j0, ?_, hj, .head _, u, by simpa using hu, ⟨i, hq i (List.mem_of_getElem? hi), hiu⟩, _, n1, rfl, hn1⟩
    have : c.toNat ≤ 100 := Nat.le_trans hcn hl
    omega
noncomputable def restOf (rd one other hi : Int) : Int := rd * 128 + one * 2 ^ 15 + other * 2 ^ 20 + hi * 2 ^ 25
theorem l_s2 {s : Shared} {Q : Flow → Shared → Prop} {E : Value → Shared → Prop} {n : Led} {bd : List Stmt} (B : Below A₀ g [] g) (X : (K0 w.params).In g) (T : Top qv (looseW qv looseL) mean mg mb g) (hd : dp + 7 ≤ 900) (hu : un + 140 ≤ 9000)
    (F : Fr g L s.heap m) (N : News g L s.heap n) (tf : TF tp cl (L + 1) pre post) (hn : TapeL tp cl pre post 3 n) (hbd : bd = bdF41.drop 2)
    (k : ∀ h tk bd' hi t n', bd' = bdF41.drop 3 → Fr g L h (fun y => if y = "high" then some (.int hi t) else m y) → News g L h n' → TapeL tp cl pre post 5 n' → 0 ≤ hi → hi < 128 →
      wpAny (model pr w) (lA dp un gd L fa cd) (execs bd' (lE L fa cd)) Q E { s with heap := h, toks := tk }) :
    wpAny (model pr w) (lA dp un gd L fa cd) (execs bd (lE L fa cd)) Q E s := by
  refine st_assignV (a := lAt dp un gd g L fa cd m) (x := "high") (P := fun v n' => IntP (fun i => 0 ≤ i ∧ i < 128) v ∧ ∃ n1, (∀ p ∈ n1, p ∈ n') ∧ TapeL tp cl pre post 5 n1) rfl rfl (hbd.trans rfl) F N (fun e' he => EV.ite2 (Pn := TapeL tp cl pre post 4) he (test_eq (l_take B X T hd hu tf hn (by decide) (by decide) (by decide)) (fun n => .pv fun h F N => .const 0 _ _)) (fun n4 hn4 => ?_) (fun n4 hn4 => ?_)) ?_
  · refine (EV.pick (ns := [0, 1, 32, 9, 64, 127, 8, 2]) (q := fun i => 0 ≤ i ∧ i < 128) B X T hd hu tf hn4 (by decide) (by decide) (by decide) (by decide) (by decide) (by decide) rfl (.cons (.i _ _ _) (.cons (.i _ _ _) (.cons (.i _ _ _) (.cons (.i _ _ _) (.cons (.i _ _ _) (.cons (.i _ _ _) (.cons (.i _ _ _) (.cons (.i _ _ _) .nil))))))))).mono fun v n' hv => ?_
    obtain ⟨hv, x, n1, rfl, hn1⟩ := hv
    exact ⟨hv, n1, fun p hp => .tail _ hp, hn1⟩
  · refine (l_take B X T hd hu tf hn4 (by decide) (by decide) (by decide)).mono fun v n' hv => ?_
    exact ⟨hv.1, n', fun p hp => hp, hv.2⟩
  · intro v n' h1 tk1 bd1 hb1 hv F1 N1
    obtain ⟨⟨hi, ⟨h0, h2⟩, t, rfl⟩, n1, hs, hn1⟩ := hv
    exact k h1 tk1 bd1 hi t n1 hb1 F1 (News.sub N1 hs) hn1 h0 h2
theorem l_s3 {s : Shared} {Q : Flow → Shared → Prop} {E : Value → Shared → Prop} {n : Led} {bd : List Stmt} {rd one other hi : Int} {t1 t2 t3 t4 : Tok}
    (F : Fr g L s.heap m) (N : News g L s.heap n) (e1 : m "rd" = some (.int rd t1)) (e2 : m "one" = some (.int one t2)) (e3 : m "other" = some (.int other t3)) (e4 : m "high" = some (.int hi t4)) (r1 : 0 ≤ rd ∧ rd < 32) (r2 : 0 ≤ one ∧ one < 32) (r3 : 0 ≤ other ∧ other < 32) (r4 : 0 ≤ hi ∧ hi < 128) (hbd : bd = bdF41.drop 3)
    (k : ∀ h tk bd' t, bd' = bdF41.drop 4 → Fr g L h (fun y => if y = "rest" then some (.int (restOf rd one other hi) t) else m y) → News g L h n →
      wpAny (model pr w) (lA dp un gd L fa cd) (execs bd' (lE L fa cd)) Q E { s with heap := h, toks := tk }) :
    wpAny (model pr w) (lA dp un gd L fa cd) (execs bd (lE L fa cd)) Q E s := by
  have nmI := fun {h : Heap} {m : Str → Option Value} (F : Fr g L h m) (y : Str) (p : Pos) (i : Int) (t : Tok) (e : m y = some (.int i t)) hx hd => PV.nameI (prog := pr) (w := w) (A := lA dp un gd L fa cd) (cn := "law") (cs := scF41) (L := L) (a := fa) (ccd := cd) (cl := [("tape", L + 1)]) (x := y) (pos := p) (i := i) (t := t) F e rfl hx hd
  refine st_assignV (a := lAt dp un gd g L fa cd m) (x := "rest") (P := Same n (IsI (restOf rd one other hi))) rfl rfl (hbd.trans rfl) F N (fun e' he => he ▸ .pv fun h F N => ?_) ?_
  · exact .add (.add (.add (.mul (nmI F "rd" _ rd t1 e1 rfl (by decide)) (.const 128 _ _) (.of_left (intBits_le_64 (by omega) (by omega)))) (.mul (nmI F "one" _ one t2 e2 rfl (by decide)) (.pow (a := 2) (n := 15) (.const 2 _ _) (.const 15 _ _) (by decide) (by decide)) (.of_left (intBits_le_64 (by omega) (by omega))))) (.mul (nmI F "other" _ other t3 e3 rfl (by decide)) (.pow (a := 2) (n := 20) (.const 2 _ _) (.const 20 _ _) (by decide) (by decide)) (.of_left (intBits_le_64 (by omega) (by omega))))) (.mul (nmI F "high" _ hi t4 e4 rfl (by decide)) (.pow (a := 2) (n := 25) (.const 2 _ _) (.const 25 _ _) (by decide) (by decide)) (.of_left (intBits_le_64 (by omega) (by omega))))
  · intro v n' h1 tk1 bd1 hb1 hv F1 N1
    obtain ⟨⟨t, rfl⟩, rfl⟩ := hv
    exact k h1 tk1 bd1 t hb1 F1 N1
theorem l_s4 {s : Shared} {Q : Flow → Shared → Prop} {E : Value → Shared → Prop} {n : Led} {bd : List Stmt} {sm : Bool} (B : Below A₀ g [] g) (X : (K0 w.params).In g) (T : Top qv (looseW qv looseL) mean mg mb g) (hd : dp + 7 ≤ 900) (hu : un + 140 ≤ 9000)
    (F : Fr g L s.heap m) (N : News g L s.heap n) (tf : TF tp cl (L + 1) pre post) (hn : TapeL tp cl pre post 5 n) (e1 : m "small" = some (.bool sm)) (hbd : bd = bdF41.drop 4)
    (k : ∀ h tk bd' v ths x n' kt, bd' = bdF41.drop 5 → Fr g L h (fun y => if y = "thirds" then some v else m y) → News g L h (x :: n') → TapeL tp cl pre post kt n' → 0 ≤ kt → kt < 1000 → Thirds [x] v ths → (sm = false → ths = [0, 1, 2, 3, 4, 5, 6, 7]) → (∀ t ∈ ths, 0 ≤ t ∧ t < 8) → ths.length ≤ 8 → ((∀ p ∈ n', p.1 ≠ x.1) ∨ ∃ fs, x.2.data = .fields fs) →
      wpAny (model pr w) (lA dp un gd L fa cd) (execs bd' (lE L fa cd)) Q E { s with heap := h, toks := tk }) :
    wpAny (model pr w) (lA dp un gd L fa cd) (execs bd (lE L fa cd)) Q E s := by
  have nmV := fun {h : Heap} {m : Str → Option Value} (F : Fr g L h m) (y : Str) (p : Pos) (v : Value) (e : m y = some v) hx hd => PV.name (P := (· = v)) (prog := pr) (w := w) (A := lA dp un gd L fa cd) (cn := "law") (cs := scF41) (L := L) (a := fa) (ccd := cd) (cl := [("tape", L + 1)]) (x := y) (pos := p) F e rfl rfl hx hd
  refine st_assignV (a := lAt dp un gd g L fa cd m) (x := "thirds") (P := fun v n0 => ∃ ths x n' kt, (∀ p ∈ x :: n', p ∈ n0) ∧ TapeL tp cl pre post kt n' ∧ 0 ≤ kt ∧ kt < 1000 ∧ Thirds [x] v ths ∧ (sm = false → ths = [0, 1, 2, 3, 4, 5, 6, 7]) ∧ (∀ t ∈ ths, 0 ≤ t ∧ t < 8) ∧ ths.length ≤ 8 ∧ ((∀ p ∈ n', p.1 ≠ x.1) ∨ ∃ fs, x.2.data = .fields fs)) rfl rfl (hbd.trans rfl) F N (fun e' he => he ▸ .ite (b := sm) (.tv fun h F N => .bool (nmV F "small" _ _ e1 rfl (by decide))) (fun hb => ?_) (fun hb => ?_)) ?_
  · refine (EV.listV (P := fun vs n' => ∃ v x n1, vs = [v] ∧ IntP (fun i => 0 ≤ i ∧ i < 8) v ∧ n' = x :: n1 ∧ TapeL tp cl pre post 6 n1) rfl (fun l0 h0 => .xV h0 (EV.pick (ns := [0, 1, 2, 5]) (q := fun i => 0 ≤ i ∧ i < 8) B X T hd hu tf hn (by decide) (by decide) (by decide) (by decide) (by decide) (by decide) rfl (.cons (.i _ _ _) (.cons (.i _ _ _) (.cons (.i _ _ _) (.cons (.i _ _ _) .nil))))) fun l1 h1 v n1 hv => .nV h1 ?_) (fun vs n hv => by obtain ⟨v, x, n1, rfl, -⟩ := hv; exact (show 1 ≤ 100 by decide))).mono fun v n0 hv => ?_
    · obtain ⟨hv, x, n2, rfl, hn2⟩ := hv
      exact ⟨v, x, n2, rfl, hv, rfl, hn2⟩
    · obtain ⟨l, vs, n1, rfl, ⟨v, x, n2, rfl, ⟨i, ⟨i0, i1⟩, t, rfl⟩, rfl, hn2⟩, rfl, hne⟩ := hv
      refine ⟨[i], _, n2, 6, fun p hp => ?_, hn2, by decide, by decide, .inl ⟨l, _, _, rfl, .head _, isL_new _ 0, .cons i t .nil⟩, (fun z => by rw [hb] at z; cases z), (fun t ht => by rw [List.mem_singleton.mp ht]; exact ⟨i0, i1⟩), (show 1 ≤ 8 by decide), .inl fun p hp => hne p (.tail _ hp)⟩
      rcases List.mem_cons.mp hp with rfl | hp
      · exact .head _
      · exact .tail _ (.tail _ hp)
  · refine (EV.range (n := 8) (cn := "law") (cs := scF41) (L := L) (f0 := fa) (ccd := cd) (cl := [("tape", L + 1)]) rfl rfl X T).mono fun v n0 hv => ?_
    obtain ⟨r, t, u, v', rfl, rfl⟩ := hv
    exact ⟨[0, 1, 2, 3, 4, 5, 6, 7], _, n, 5, fun p hp => hp, hn, by decide, by decide, .inr ⟨r, t, u, v', rfl, .head _, rfl⟩, fun _ => rfl, by decide, by decide, .inr ⟨_, rfl⟩⟩
  · intro v n0 h1 tk1 bd1 hb1 hv F1 N1
    obtain ⟨ths, x, n', kt, hs, hn', k0, k1, ht, a1, a2, a3, a4⟩ := hv
    exact k h1 tk1 bd1 v ths x n' kt hb1 F1 (News.sub N1 hs) hn' k0 k1 ht a1 a2 a3 a4
end
structure Plain : Prop where
  words : ∀ rd one other hi, 0 ≤ rd → rd < 32 → 0 ≤ one → one < 32 → 0 ≤ other → other < 32 → 0 ≤ hi → hi < 128 → ∀ i, i < 32 → ∀ t, 0 ≤ t → t < 8 → Good (wordAt (restOf rd one other hi) i t)
  last1 : ∀ rd one other hi, 0 ≤ rd → rd < 32 → 0 ≤ one → one < 32 → 0 ≤ other → other < 32 → 0 ≤ hi → hi < 128 → ∀ x ∈ lastWords (restOf rd one other hi), Good x
  last2 : ∀ rd one other hi, 0 ≤ rd → rd < 32 → 0 ≤ one → one < 32 → 0 ≤ other → other < 32 → 0 ≤ hi → hi < 128 → ∀ x, IsLow x → Good (restOf rd one other hi + x)
  count : ∀ rd one other hi, 0 ≤ rd → rd < 32 → 0 ≤ one → one < 32 → 0 ≤ other → other < 32 → 0 ≤ hi → hi < 128 →
    ((metFold (allWords (restOf rd one other hi) [0, 1, 2, 3, 4, 5, 6, 7] 32)).length : Int) = manyF hi rd + (if aloneL.any (· == restOf rd one other hi + 115) then 1 else 0)
section
variable {w : World} {mean : ExcName → Option Value} {mg mb : Str → Option Value} {A₀ : Around} {g : Heap} {L fa : Addr} {cd : Value} {m : Str → Option Value} {dp un : Nat} {gd : Option (List Code)}
theorem l_main (PL : Plain) {s : Shared} {Q : Flow → Shared → Prop} {oc : Obj} {v0 : Option Value} {l : Addr} {items : Array Value} {xs : List Int} (B : Below A₀ g [] g) (X : (K0 w.params).In g) (T : Top qv (looseW qv looseL) mean mg mb g) (hd : dp + 7 ≤ 900) (hu : un + 140 ≤ 9000)
    (F : Fr g L s.heap m) (N : News g L s.heap [(L + 1, oc)]) (hoc : oc.data = .cell v0) (hm : m "script" = some (.ref l)) (hl : g.IsList l items) (hi : IntsAre items.toList xs) (hsz : items.size ≤ 63)
    (k : ∀ h tk m' n', Fr g L h m' → News g L h n' → Q (.ret (.bool true)) { s with heap := h, toks := tk }) :
    wpAny (model pr w) (lA dp un gd L fa cd) (execs bdF41 (lE L fa cd)) Q (fun _ _ => False) s := by
  refine l_s0 B X T hd hu F N hoc hm hl hi hsz fun h0 tk0 bd0 sm tp cl md r od ot t base m0 hb0 F0 N0 hot tf hmd hod lo hr es em er => ?_
  refine l_s1 (s := { s with heap := h0, toks := tk0 }) (pre := []) (post := (md, od) :: base) B X T hd hu F0 N0 tf ⟨ot, t, rfl, hot⟩ hb0 fun h1 tk1 bd1 rd one other t1 t2 t3 n1 hb1 F1 N1 hn1 a1 a2 b1 b2 c1 c2 => ?_
  generalize hm1 : (fun y : Str => if y = "other" then some (Value.int other t3) else if y = "one" then some (.int one t2) else if y = "rd" then some (.int rd t1) else m0 y) = m1 at F1
  have ors : m1 "rd" = some (.int rd t1) := by rw [← hm1]; rfl
  have oon : m1 "one" = some (.int one t2) := by rw [← hm1]; rfl
  have oot : m1 "other" = some (.int other t3) := by rw [← hm1]; rfl
  have osm : m1 "small" = some (.bool sm) := by rw [← hm1]; exact es
  have ome : m1 "met" = some (.ref md) := by rw [← hm1]; exact em
  have oro : m1 "rows" = some (.ref r) := by rw [← hm1]; exact er
  refine l_s2 (s := { s with heap := h1, toks := tk1 }) B X T hd hu F1 N1 tf hn1 hb1 fun h2 tk2 bd2 hi' t4 n2 hb2 F2 N2 hn2 d1 d2 => ?_
  refine l_s3 (s := { s with heap := h2, toks := tk2 }) (rd := rd) (one := one) (other := other) (hi := hi') (t1 := t1) (t2 := t2) (t3 := t3) (t4 := t4) F2 N2 ors oon oot rfl ⟨a1, a2⟩ ⟨b1, b2⟩ ⟨c1, c2⟩ ⟨d1, d2⟩ hb2 fun h3 tk3 bd3 t5 hb3 F3 N3 => ?_
  refine l_s4 (s := { s with heap := h3, toks := tk3 }) (sm := sm) B X T hd hu F3 N3 tf hn2 osm hb3 fun h4 tk4 bd4 thv ths x n4 kt hb4 F4 N4 hn4 k0 k1 hth hsm hts hlen hx => ?_
  generalize hrest : restOf rd one other hi' = rest at F4
  have hr0 : 0 ≤ rest ∧ rest < 2 ^ 32 := by
    rw [← hrest]
    unfold restOf
    omega
  obtain ⟨o4, u4, rfl, ho4⟩ := hn4
  have hxt : x.1 ≠ tp ∧ x.1 ≠ md := by
    rcases hx with hx | ⟨fs, hfs⟩
    · exact ⟨fun z => hx (tp, o4) (.head _) z.symm, fun z => hx (md, od) (.tail _ (.head _)) z.symm⟩
    · obtain ⟨-, k4, hd4⟩ := ho4
      obtain ⟨es', ep', -, hodd, -⟩ := hod
      exact ⟨news_ne N4 (.head _) (q := (tp, o4)) (.tail _ (.head _)) (by show x.2.data ≠ o4.data; rw [hfs, hd4]; exact fun z => by cases z), news_ne N4 (.head _) (q := (md, od)) (.tail _ (.tail _ (.head _))) (by show x.2.data ≠ od.data; rw [hfs, hodd]; exact fun z => by cases z)⟩
  have hmt : md ≠ tp := tf.ap (md, od) (.head _)
  have lm : LM sm md r rd hi' rest t1 t4 t5 (fun y => if y = "thirds" then some thv else if y = "rest" then some (.int rest t5) else if y = "high" then some (.int hi' t4) else m1 y) := ⟨osm, ome, oro, ors, rfl, rfl⟩
  have N4' : News g L h4 ([x, (tp, o4)] ++ (md, od) :: base) := N4
  have hG : ∀ i, i < 32 → ∀ t ∈ ths, Good (wordAt rest i t) := fun i hi t ht => hrest ▸ PL.words rd one other hi' a1 a2 b1 b2 c1 c2 d1 d2 i hi t (hts t ht).1 (hts t ht).2
  have hup : ∀ p ∈ base, p ∈ [x, (tp, o4)] ++ base := fun p hp => .tail _ (.tail _ hp)
  rw [hb4]
  have hbd : bdF41.drop 5 = stAt bdF41 5 :: bdF41.drop 6 := rfl
  rw [hbd]
  refine wpAny_execs_cons (wpAny_mono (l_loops (s := { s with heap := h4, toks := tk4 }) (Q := fun f s' => f = .next ∧ ∃ h tk m' od', s' = { s with heap := h, toks := tk } ∧ Fr g L h m' ∧ News g L h ([x, (tp, o4)] ++ (md, od') :: base) ∧ od'.IsDictOf (strKind pr w) (metFold (allWords rest ths 32)) ∧ LM sm md r rd hi' rest t1 t4 t5 m') (pre := [x, (tp, o4)]) (post := base) (thv := thv) B X T hd hu F4 N4' hod lm rfl ?_ hts hlen hG hr0.1 hr0.2 (fun p hp => ?_) (hr.up hup) fun h tk m' od' F' N' hod' lm' => ⟨rfl, h, tk, m', od', rfl, F', N', hod', lm'⟩) (fun f s' hf => ?_) fun _ _ z => z.elim)
  · rcases hth with ⟨ax, o, its, a, b, c⟩ | ⟨rng, t, u, v, a, b, c⟩
    · exact .inl ⟨ax, o, its, a, by rw [List.mem_singleton.mp b]; exact .head _, c⟩
    · exact .inr ⟨rng, t, u, v, a, by rw [List.mem_singleton.mp b]; exact .head _, c⟩
  · rcases List.mem_cons.mp hp with rfl | hp
    · exact hxt.2
    rcases List.mem_cons.mp hp with rfl | hp
    · exact fun z => hmt z.symm
    · exact hmd p hp
  obtain ⟨rfl, h5, tk5, m5, od5, rfl, F5, N5, hod5, lm5⟩ := hf
  have tf5 : TF tp cl (L + 1) [x] ((md, od5) :: base) := by
    obtain ⟨⟨oc', its, zs, hc1, hc2, hc3⟩, ⟨occ, hc4, hc5⟩, hap⟩ := tf
    have hold : ∀ p : Addr × Obj, p ∈ [] ++ (md, od) :: base → p ≠ (md, od) → p ∈ [x] ++ (md, od5) :: base := fun p hp hne => by
      rcases List.mem_cons.mp hp with h | h
      · exact absurd h hne
      · exact .tail _ (.tail _ h)
    obtain ⟨es', ep', -, hodd, -⟩ := hod
    refine ⟨⟨oc', its, zs, hold _ hc1 fun z => ?_, hc2, hc3⟩, ⟨occ, hold _ hc4 fun z => ?_, hc5⟩, fun p hp => ?_⟩
    · cases z
      obtain ⟨-, j, e⟩ := hc2
      rw [hodd] at e; cases e
    · cases z
      rw [hodd] at hc5; cases hc5
    · rcases List.mem_cons.mp hp with rfl | hp
      · exact hxt.1
      rcases List.mem_cons.mp hp with rfl | hp
      · exact hmt
      · exact hap p (.tail _ hp)
  have hml := metFold_len (allWords rest ths 32)
  have hal := allWords_len rest ths hlen 32
  refine l_tail (s := { s with heap := h5, toks := tk5 }) (pre := [x]) (post := (md, od5) :: base) (n := [x, (tp, o4)] ++ (md, od5) :: base) B X T hd hu F5 N5 lm5 tf5 ⟨o4, u4, rfl, ho4⟩ k0 k1 (hr.up fun p hp => .tail _ (.tail _ hp)) (.tail _ (.tail _ (.head _))) hod5 lo (fun hs => ?_) (by omega) (fun y hy => ?_) (fun y hy => ?_) fun h tk m' n' F' N' => k h tk m' n' F' N'
  · rw [hsm hs, ← hrest]
    exact PL.count rd one other hi' a1 a2 b1 b2 c1 c2 d1 d2
  · refine ⟨PL.last1 rd one other hi' a1 a2 b1 b2 c1 c2 d1 d2 y (hrest ▸ hy), ?_⟩
    simp only [lastWords, List.mem_cons, List.not_mem_nil, or_false] at hy
    omega
  · refine ⟨hrest ▸ PL.last2 rd one other hi' a1 a2 b1 b2 c1 c2 d1 d2 y hy, ?_⟩
    unfold IsLow at hy
    rcases hy with h | h | h | ⟨j, h⟩ | ⟨j, h⟩ | h <;> omega
end
end Mine
end
section
open PySem PySem.W PyProof.Rows PySem.Calls PyProof.V PySem.Spec
set_option maxHeartbeats 2000000
namespace Mine
theorem nat_hole {a b i j : Nat} (h1 : a % 2 ^ j < 2 ^ i) (h2 : b % 2 ^ i = 0) (h3 : b < 2 ^ j) : a &&& b = 0 := by
  apply Nat.eq_of_testBit_eq
  intro k
  rw [Nat.testBit_and, Nat.zero_testBit]
  by_cases hk : k < i
  · have : b.testBit k = false := by
      have e : (b % 2 ^ i).testBit k = (decide (k < i) && b.testBit k) := Nat.testBit_mod_two_pow b i k
      rw [h2, Nat.zero_testBit] at e
      simpa [hk] using e.symm
    rw [this, Bool.and_false]
  · by_cases hj : k < j
    · have : a.testBit k = false := by
        have e : (a % 2 ^ j).testBit k = (decide (k < j) && a.testBit k) := Nat.testBit_mod_two_pow a j k
        rw [Nat.testBit_lt_two_pow (Nat.lt_of_lt_of_le h1 (Nat.pow_le_pow_right (by decide) (by omega)))] at e
        simpa [hj] using e.symm
      rw [this, Bool.false_and]
    · rw [Nat.testBit_lt_two_pow (Nat.lt_of_lt_of_le h3 (Nat.pow_le_pow_right (by decide) (by omega))), Bool.and_false]
theorem or_hole {a b : Int} (i j : Nat) (ha : 0 ≤ a) (hb : 0 ≤ b) (h1 : a % 2 ^ j < 2 ^ i) (h2 : b % 2 ^ i = 0) (h3 : b < 2 ^ j) : Builtin.bitOr a b = a + b := by
  rw [bitOr_and, bitAnd_pp ha hb, nat_hole (i := i) (j := j)]
  · omega
  · have : ((a.toNat % 2 ^ j : Nat) : Int) < ((2 ^ i : Nat) : Int) := by
      rw [Int.natCast_emod, Int.toNat_of_nonneg ha, Int.natCast_pow, Int.natCast_pow]
      exact h1
    exact Int.ofNat_lt.mp this
  · have : ((b.toNat % 2 ^ i : Nat) : Int) = ((0 : Nat) : Int) := by
      rw [Int.natCast_emod, Int.toNat_of_nonneg hb, Int.natCast_pow]
      exact h2
    exact Int.ofNat_inj.mp this
  · have : ((b.toNat : Nat) : Int) < ((2 ^ j : Nat) : Int) := by
      rw [Int.toNat_of_nonneg hb, Int.natCast_pow]
      exact h3
    exact Int.ofNat_lt.mp this
theorem nat_block (x m k : Nat) : x &&& (2 ^ k * m) = 2 ^ k * ((x / 2 ^ k) &&& m) := by
  apply Nat.eq_of_testBit_eq
  intro j
  rw [Nat.testBit_and, Nat.testBit_two_pow_mul, Nat.testBit_two_pow_mul, Nat.testBit_and, Nat.testBit_div_two_pow]
  by_cases h : k ≤ j
  · rw [show j - k + k = j by omega]
    simp [h]
  · simp [h]
theorem and_mask (n : Nat) (x : Int) : Builtin.bitAnd x ((2 ^ n - 1 : Nat) : Int) = x % 2 ^ n := by
  have hp : 0 < 2 ^ n := Nat.two_pow_pos n
  by_cases hx : 0 ≤ x
  · rw [bitAnd_pp hx (Int.natCast_nonneg _), Int.toNat_natCast, Nat.and_two_pow_sub_one_eq_mod, Int.natCast_emod, Int.toNat_of_nonneg hx, Int.natCast_pow]
    rfl
  · rw [bitAnd_np hx (Int.natCast_nonneg _), Int.toNat_natCast, Nat.and_comm, Nat.and_two_pow_sub_one_eq_mod]
    have hb : ((Builtin.bitNot x).toNat : Int) = -x - 1 := by
      have : Builtin.bitNot x = -x - 1 := rfl
      rw [this]; omega
    rw [Int.natCast_emod, hb, Int.natCast_pow]
    generalize hM : (2 ^ n : Nat) = M at hp
    have hM2 : ((2 : Nat) : Int) ^ n = (M : Int) := by rw [← hM, Int.natCast_pow]
    have hM3 : (2 : Int) ^ n = (M : Int) := hM2
    rw [hM2, hM3]
    have e := Int.mul_ediv_add_emod (-x - 1) M
    have r0 := Int.emod_nonneg (-x - 1) (show (M : Int) ≠ 0 by omega)
    have r1 := Int.emod_lt_of_pos (-x - 1) (show (0 : Int) < M by omega)
    generalize (-x - 1) % (M : Int) = r at *
    generalize (-x - 1) / (M : Int) = q at *
    have hx' : x = ((M : Int) - 1 - r) + (M : Int) * (-(q + 1)) := by
      rw [Int.mul_neg, Int.mul_add, Int.mul_one]; omega
    rw [hx', Int.add_mul_emod_self_left, Int.emod_eq_of_lt (by omega) (by omega)]
    omega
theorem and_707 {x : Int} (hx : 0 ≤ x) : Builtin.bitAnd x 28799 = x % 128 + 4096 * ((x / 4096) % 8) := by
  obtain ⟨n, rfl⟩ := Int.eq_ofNat_of_zero_le hx
  rw [bitAnd_pp hx (by decide)]
  have e : (n &&& 28799) = n % 128 + 4096 * ((n / 4096) % 8) := by
    rw [show (28799 : Nat) = 127 ||| 2 ^ 12 * 7 by decide, Nat.and_or_distrib_left, nat_block, show (127 : Nat) = 2 ^ 7 - 1 by decide, Nat.and_two_pow_sub_one_eq_mod, show (7 : Nat) = 2 ^ 3 - 1 by decide, Nat.and_two_pow_sub_one_eq_mod]
    have h := Nat.two_pow_add_eq_or_of_lt (i := 12) (b := n % 2 ^ 7) (by omega) (n / 2 ^ 12 % 2 ^ 3)
    rw [Nat.or_comm, ← h]
    omega
  show (((n : Int).toNat &&& 28799 : Nat) : Int) = _
  rw [Int.toNat_natCast, e]
  omega
theorem and_fe7 {x : Int} (hx : 0 ≤ x) : Builtin.bitAnd x 4261441663 = x % 128 + 4096 * ((x / 4096) % 8) + 33554432 * ((x / 33554432) % 128) := by
  obtain ⟨n, rfl⟩ := Int.eq_ofNat_of_zero_le hx
  rw [bitAnd_pp hx (by decide)]
  have e : (n &&& 4261441663) = n % 128 + 4096 * ((n / 4096) % 8) + 33554432 * ((n / 33554432) % 128) := by
    rw [show (4261441663 : Nat) = (127 ||| 2 ^ 12 * 7) ||| 2 ^ 25 * 127 by decide, Nat.and_or_distrib_left, Nat.and_or_distrib_left, nat_block, nat_block, show (127 : Nat) = 2 ^ 7 - 1 by decide, Nat.and_two_pow_sub_one_eq_mod, show (7 : Nat) = 2 ^ 3 - 1 by decide, Nat.and_two_pow_sub_one_eq_mod, Nat.and_two_pow_sub_one_eq_mod]
    have h := Nat.two_pow_add_eq_or_of_lt (i := 12) (b := n % 2 ^ 7) (by omega) (n / 2 ^ 12 % 2 ^ 3)
    rw [Nat.or_comm (n % 2 ^ 7), ← h]
    have h2 := Nat.two_pow_add_eq_or_of_lt (i := 25) (b := 2 ^ 12 * (n / 2 ^ 12 % 2 ^ 3) + n % 2 ^ 7) (by omega) (n / 2 ^ 25 % 2 ^ 7)
    rw [Nat.or_comm, ← h2]
    omega
  show (((n : Int).toNat &&& 4261441663 : Nat) : Int) = _
  rw [Int.toNat_natCast, e]
  omega
theorem and_1 (x : Int) : Builtin.bitAnd x ((1 : Nat) : Int) = x % 2 := and_mask 1 x
theorem and_15 (x : Int) : Builtin.bitAnd x ((15 : Nat) : Int) = x % 16 := and_mask 4 x
theorem and_31 (x : Int) : Builtin.bitAnd x ((31 : Nat) : Int) = x % 32 := and_mask 5 x
theorem and_63 (x : Int) : Builtin.bitAnd x ((63 : Nat) : Int) = x % 64 := and_mask 6 x
theorem and_127 (x : Int) : Builtin.bitAnd x ((127 : Nat) : Int) = x % 128 := and_mask 7 x
theorem and_255 (x : Int) : Builtin.bitAnd x ((255 : Nat) : Int) = x % 256 := and_mask 8 x
theorem and_1023 (x : Int) : Builtin.bitAnd x ((1023 : Nat) : Int) = x % 1024 := and_mask 10 x
theorem and_4095 (x : Int) : Builtin.bitAnd x ((4095 : Nat) : Int) = x % 4096 := and_mask 12 x
theorem and_2048 {x : Int} (hx : 0 ≤ x) : Builtin.bitAnd x ((2048 : Nat) : Int) = 2048 * ((x / 2048) % 2) := by
  obtain ⟨n, rfl⟩ := Int.eq_ofNat_of_zero_le hx
  rw [bitAnd_pp hx (by decide)]
  have e : (n &&& 2048) = 2048 * ((n / 2048) % 2) := by
    rw [show (2048 : Nat) = 2 ^ 11 * 1 by decide, nat_block, show (1 : Nat) = 2 ^ 1 - 1 by decide, Nat.and_two_pow_sub_one_eq_mod]
  show (((n : Int).toNat &&& 2048 : Nat) : Int) = _
  rw [Int.toNat_natCast, e]
  omega
theorem fd (x : Int) {n : Int} (h : 0 ≤ n) : x.fdiv n = x / n := Int.fdiv_eq_ediv_of_nonneg x h
theorem fm (x : Int) {n : Int} (h : 0 ≤ n) : x.fmod n = x % n := Int.fmod_eq_emod_of_nonneg x h
theorem look_none {β : Type} (T : List (Int × β)) (k : Int) (h : ∀ p ∈ T, p.1 ≠ k) : T.lookup k = none := by
  rw [List.lookup_eq_none_iff]
  intro p hp
  have hne : k ≠ p.1 := fun e => h p hp e.symm
  simpa using hne
noncomputable def sh1 (l t h : Int) (z : Bool) (wh : Option Nat) : Option Nat :=
  match tOpc.lookup l with
  | some a => some a
  | none => match tThird.lookup (l + 4096 * t) with
    | some a => some a
    | none => match tSev.lookup (l + 4096 * t + 33554432 * h) with
      | some a => if (kindOf a == "flush") && !z then none else some a
      | none => wh
theorem shape_eq {x : Int} (hx : 0 ≤ x) : shapeOf x = sh1 (x % 128) (x / 4096 % 8) (x / 33554432 % 128) (x / 128 % 32 == 0) (tWhole.lookup x) := by
  unfold shapeOf sh1
  rw [and_127, show ((28799 : Nat) : Int) = 28799 from rfl, and_707 hx, show ((4261441663 : Nat) : Int) = 4261441663 from rfl, and_fe7 hx, and_31, fd x (by decide : (0 : Int) ≤ 2 ^ 7)]
  rfl
noncomputable def nm0 (i t h : Int) (z : Bool) : Option Str := match (((rowsT.lookup i).getD (List.replicate 8 none))[t.toNat]?).getD none with
  | some s => some s
  | none => byHigh i t h (if z then 0 else 1)
theorem byHigh_z (i t h rd : Int) : byHigh i t h rd = byHigh i t h (if (rd == 0) then 0 else 1) := by
  unfold byHigh
  by_cases e : rd = 0
  · subst e; rfl
  · have : (rd == 0) = false := by simpa using e
    rw [this]
    rfl
theorem nameOf_eq {x : Int} (hx : 0 ≤ x) (h3 : x % 4 = 3) (ha : aloneT.lookup x = none) : nameOf x = nm0 (x / 4 % 32) (x / 4096 % 8) (x / 33554432) (x / 128 % 32 == 0) := by
  unfold nameOf nm0
  rw [fm x (by decide : (0 : Int) ≤ 4), h3, ha]
  rw [if_neg (by decide)]
  rw [fd x (by decide : (0 : Int) ≤ 4), fm _ (by decide : (0 : Int) ≤ 32), fd x (by decide : (0 : Int) ≤ 4096), fm _ (by decide : (0 : Int) ≤ 8), fd x (by decide : (0 : Int) ≤ 2 ^ 25), fd x (by decide : (0 : Int) ≤ 128), fm _ (by decide : (0 : Int) ≤ 32), byHigh_z]
  rfl
noncomputable def nameAt (a : Nat) : Str := ((shT.lookup a).map (·.1)).getD ""
noncomputable def chkAll : Bool := (List.range 32).all fun i => (List.range 8).all fun t => ([0, 1, 9, 32, 2] : List Int).all fun h => [true, false].all fun z => (sh1 (4 * (i : Int) + 3) t h z none).map nameAt == nm0 i t h z
theorem chkAll_ok : chkAll = true := by decide +kernel
theorem sev_highs : tSev.all (fun p => ([0, 1, 9, 32] : List Int).any (· == p.1 / 33554432)) = true := by decide +kernel
theorem sev_none {l t h : Int} (l0 : 0 ≤ l) (l1 : l < 128) (t0 : 0 ≤ t) (t1 : t < 8) (n0 : h ≠ 0) (n1 : h ≠ 1) (n2 : h ≠ 9) (n3 : h ≠ 32) : tSev.lookup (l + 4096 * t + 33554432 * h) = none := by
  refine look_none _ _ fun p hp e => ?_
  have := List.all_eq_true.mp sev_highs p hp
  rw [e, show (l + 4096 * t + 33554432 * h) / 33554432 = h by omega] at this
  simp only [List.any_cons, List.any_nil, Bool.or_false, Bool.or_eq_true, beq_iff_eq] at this
  omega
theorem sh1_other {l t h : Int} {z : Bool} {wh : Option Nat} (l0 : 0 ≤ l) (l1 : l < 128) (t0 : 0 ≤ t) (t1 : t < 8) (n0 : h ≠ 0) (n1 : h ≠ 1) (n2 : h ≠ 9) (n3 : h ≠ 32) : sh1 l t h z wh = sh1 l t 2 z wh := by
  unfold sh1
  rw [sev_none l0 l1 t0 t1 n0 n1 n2 n3, sev_none l0 l1 t0 t1 (by decide : (2 : Int) ≠ 0) (by decide) (by decide) (by decide)]
theorem nm0_other {i t h : Int} {z : Bool} (n0 : h ≠ 0) (n1 : h ≠ 1) (n2 : h ≠ 9) (n3 : h ≠ 32) : nm0 i t h z = nm0 i t 2 z := by
  unfold nm0
  have e : ∀ r, byHigh i t h r = byHigh i t 2 r := fun r => by
    unfold byHigh
    simp [n0, n1, n2, n3]
  rw [e]
theorem names_fin {i t h : Int} {z : Bool} (i0 : 0 ≤ i) (i1 : i < 32) (t0 : 0 ≤ t) (t1 : t < 8) : (sh1 (4 * i + 3) t h z none).map nameAt = nm0 i t h z := by
  have key : ∀ h' ∈ ([0, 1, 9, 32, 2] : List Int), (sh1 (4 * i + 3) t h' z none).map nameAt = nm0 i t h' z := fun h' hh => by
    have a1 := List.all_eq_true.mp chkAll_ok i.toNat (List.mem_range.mpr (by omega))
    have a2 := List.all_eq_true.mp a1 t.toNat (List.mem_range.mpr (by omega))
    have a3 := List.all_eq_true.mp a2 h' hh
    have a4 := List.all_eq_true.mp a3 z (by cases z <;> simp)
    rw [Int.toNat_of_nonneg i0, Int.toNat_of_nonneg t0] at a4
    exact eq_of_beq a4
  by_cases n0 : h = 0
  · exact n0 ▸ key 0 (by simp)
  by_cases n1 : h = 1
  · exact n1 ▸ key 1 (by simp)
  by_cases n2 : h = 9
  · exact n2 ▸ key 9 (by simp)
  by_cases n3 : h = 32
  · exact n3 ▸ key 32 (by simp)
  rw [sh1_other (by omega) (by omega) t0 t1 n0 n1 n2 n3, nm0_other n0 n1 n2 n3]
  exact key 2 (by simp)
theorem whole_keys : tWhole.map (·.1) = [115, 1048691, 270532723, 273678451, 807403635] := by decide +kernel
theorem alone_cases {x : Int} {s : Str} (h : aloneT.lookup x = some s) : x = 115 ∨ x = 1048691 ∨ x = 270532723 ∨ x = 807403635 ∨ x = 273678451 := by
  by_cases h1 : x = 115
  · exact .inl h1
  by_cases h2 : x = 1048691
  · exact .inr (.inl h2)
  by_cases h3 : x = 270532723
  · exact .inr (.inr (.inl h3))
  by_cases h4 : x = 807403635
  · exact .inr (.inr (.inr (.inl h4)))
  by_cases h5 : x = 273678451
  · exact .inr (.inr (.inr (.inr h5)))
  rw [look_none aloneT x (fun p hp e => ?_)] at h
  · cases h
  · simp only [aloneT, List.mem_cons, List.not_mem_nil, or_false] at hp
    rcases hp with rfl | rfl | rfl | rfl | rfl <;> omega
theorem alone_none {x : Int} (h : aloneT.lookup x = none) : x ≠ 115 ∧ x ≠ 1048691 ∧ x ≠ 270532723 ∧ x ≠ 807403635 ∧ x ≠ 273678451 := by
  refine ⟨?_, ?_, ?_, ?_, ?_⟩ <;> (rintro rfl; revert h; decide)
theorem whole_none {x : Int} (h : x ≠ 115 ∧ x ≠ 1048691 ∧ x ≠ 270532723 ∧ x ≠ 807403635 ∧ x ≠ 273678451) : tWhole.lookup x = none := by
  refine look_none _ _ fun p hp e => ?_
  have : p.1 ∈ tWhole.map (·.1) := List.mem_map_of_mem hp
  rw [whole_keys, e] at this
  simp only [List.mem_cons, List.not_mem_nil, or_false] at this
  omega
theorem names_agree {x : Int} (h0 : 0 ≤ x) (h1 : x < 2 ^ 32) (h3 : x % 4 = 3) : (shapeOf x).map nameAt = nameOf x := by
  cases ha : aloneT.lookup x with
  | none =>
    rw [shape_eq h0, whole_none (alone_none ha), nameOf_eq h0 h3 ha]
    have e1 : x % 128 = 4 * (x / 4 % 32) + 3 := by omega
    have e2 : x / 33554432 % 128 = x / 33554432 := by omega
    rw [e1, e2]
    exact names_fin (by omega) (by omega) (by omega) (by omega)
  | some s =>
    rcases alone_cases ha with rfl | rfl | rfl | rfl | rfl <;> decide +kernel
theorem keys3 : (tOpc.all (fun p => p.1 % 4 == 3) && tThird.all (fun p => p.1 % 4 == 3) && tSev.all (fun p => p.1 % 4 == 3) && tWhole.all (fun p => p.1 % 4 == 3) && aloneT.all (fun p => p.1 % 4 == 3)) = true := by decide +kernel
theorem look_not3 {β : Type} {T : List (Int × β)} (h : T.all (fun p => p.1 % 4 == 3) = true) {k : Int} (hk : k % 4 ≠ 3) : T.lookup k = none :=
  look_none T k fun p hp e => hk (by have := List.all_eq_true.mp h p hp; rw [e] at this; exact eq_of_beq this)
theorem shape_not3 {x : Int} (h0 : 0 ≤ x) (h3 : x % 4 ≠ 3) : shapeOf x = none ∧ nameOf x = none := by
  have k := keys3
  simp only [Bool.and_eq_true] at k
  obtain ⟨⟨⟨⟨k1, k2⟩, k3⟩, k4⟩, k5⟩ := k
  constructor
  · rw [shape_eq h0]
    unfold sh1
    rw [look_not3 k1 (by omega), look_not3 k2 (by omega), look_not3 k3 (by omega), look_not3 k4 h3]
  · unfold nameOf
    rw [fm x (by decide : (0 : Int) ≤ 4), if_pos (by simp [h3]), look_not3 k5 h3]
theorem good_not3 {x : Int} (h0 : 0 ≤ x) (h3 : x % 4 ≠ 3) : Good x := by
  obtain ⟨e1, e2⟩ := shape_not3 h0 h3
  refine ⟨fun _ => e2, fun hb => ?_⟩
  unfold badW at hb
  rw [e1] at hb
  simp at hb
structure Dg (x l rd t s1 s2 h : Int) : Prop where
  l0 : 0 ≤ l
  l1 : l < 128
  rd0 : 0 ≤ rd
  rd1 : rd < 32
  t0 : 0 ≤ t
  t1 : t < 8
  a0 : 0 ≤ s1
  a1 : s1 < 32
  b0 : 0 ≤ s2
  b1 : s2 < 32
  h0 : 0 ≤ h
  h1 : h < 128
  x : x = l + 128 * rd + 4096 * t + 32768 * s1 + 1048576 * s2 + 33554432 * h
theorem dg_of {x : Int} (h0 : 0 ≤ x) (h1 : x < 4294967296) : Dg x (x % 128) (x / 128 % 32) (x / 4096 % 8) (x / 32768 % 32) (x / 1048576 % 32) (x / 33554432) :=
  ⟨by omega, by omega, by omega, by omega, by omega, by omega, by omega, by omega, by omega, by omega, by omega, by omega, by omega⟩
theorem oh {a b : Int} (i j : Nat) (M N : Int) (hM : (2 : Int) ^ j = M) (hN : (2 : Int) ^ i = N) (ha : 0 ≤ a) (hb : 0 ≤ b) (h1 : a % M < N) (h2 : b % N = 0) (h3 : b < M) : Builtin.bitOr a b = a + b := by
  subst hM hN
  exact or_hole i j ha hb h1 h2 h3
theorem dv {x lo y M : Int} (h0 : 0 ≤ lo) (h1 : lo < M) (e : x = lo + M * y) : x / M = y := by
  rw [e, Int.add_mul_ediv_left _ _ (Int.ne_of_gt (Int.lt_of_le_of_lt h0 h1)), Int.ediv_eq_zero_of_lt h0 h1, Int.zero_add]
theorem md {x lo y M : Int} (h0 : 0 ≤ lo) (h1 : lo < M) (e : x = lo + M * y) : x % M = lo := by
  rw [e, Int.add_mul_emod_self_left, Int.emod_eq_of_lt h0 h1]
theorem le2 {a b A B : Int} (a0 : 0 ≤ a) (a1 : a < A) (b0 : 0 ≤ b) (b1 : b < B) (hA : 0 < A) : 0 ≤ a + A * b ∧ a + A * b < A * B := by
  have h1 : 0 ≤ A * b := Int.mul_nonneg (Int.le_of_lt hA) b0
  have h2 : A * b ≤ A * (B - 1) := Int.mul_le_mul_of_nonneg_left (by omega) (Int.le_of_lt hA)
  rw [Int.mul_sub, Int.mul_one] at h2
  omega
section
variable {x l rd t s1 s2 h : Int}
theorem Dg.r7 (d : Dg x l rd t s1 s2 h) : 0 ≤ l + 128 * rd ∧ l + 128 * rd < 4096 := le2 d.l0 d.l1 d.rd0 d.rd1 (by decide)
theorem Dg.r12 (d : Dg x l rd t s1 s2 h) : 0 ≤ l + 128 * rd + 4096 * t ∧ l + 128 * rd + 4096 * t < 32768 := le2 d.r7.1 d.r7.2 d.t0 d.t1 (by decide)
theorem Dg.r15 (d : Dg x l rd t s1 s2 h) : 0 ≤ l + 128 * rd + 4096 * t + 32768 * s1 ∧ l + 128 * rd + 4096 * t + 32768 * s1 < 1048576 := le2 d.r12.1 d.r12.2 d.a0 d.a1 (by decide)
theorem Dg.r20 (d : Dg x l rd t s1 s2 h) : 0 ≤ l + 128 * rd + 4096 * t + 32768 * s1 + 1048576 * s2 ∧ l + 128 * rd + 4096 * t + 32768 * s1 + 1048576 * s2 < 33554432 := le2 d.r15.1 d.r15.2 d.b0 d.b1 (by decide)
theorem Dg.d7 (d : Dg x l rd t s1 s2 h) : x / 128 = rd + 32 * (t + 8 * s1 + 256 * s2 + 8192 * h) := dv d.l0 d.l1 (by have := d.x; omega)
theorem Dg.d12 (d : Dg x l rd t s1 s2 h) : x / 4096 = t + 8 * s1 + 256 * s2 + 8192 * h := dv d.r7.1 d.r7.2 (by have := d.x; omega)
theorem Dg.d15 (d : Dg x l rd t s1 s2 h) : x / 32768 = s1 + 32 * (s2 + 32 * h) := dv d.r12.1 d.r12.2 (by have := d.x; omega)
theorem Dg.d20 (d : Dg x l rd t s1 s2 h) : x / 1048576 = s2 + 32 * h := dv d.r15.1 d.r15.2 (by have := d.x; omega)
theorem Dg.d25 (d : Dg x l rd t s1 s2 h) : x / 33554432 = h := dv d.r20.1 d.r20.2 d.x
theorem Dg.rdF (d : Dg x l rd t s1 s2 h) : rdF x = rd := by
  show Builtin.bitAnd (x.fdiv (2 ^ 7)) ((31 : Nat) : Int) = rd
  rw [and_31, fd x (by decide)]
  show x / 128 % 32 = rd
  rw [d.d7]
  exact md d.rd0 d.rd1 rfl
theorem Dg.rs1F (d : Dg x l rd t s1 s2 h) : rs1F x = s1 := by
  show Builtin.bitAnd (x.fdiv (2 ^ 15)) ((31 : Nat) : Int) = s1
  rw [and_31, fd x (by decide)]
  show x / 32768 % 32 = s1
  rw [d.d15]
  exact md d.a0 d.a1 rfl
theorem Dg.rs2F (d : Dg x l rd t s1 s2 h) : rs2F x = s2 := by
  show Builtin.bitAnd (x.fdiv (2 ^ 20)) ((31 : Nat) : Int) = s2
  rw [and_31, fd x (by decide)]
  show x / 1048576 % 32 = s2
  rw [d.d20]
  exact md d.b0 d.b1 rfl
theorem Dg.hi (d : Dg x l rd t s1 s2 h) : x.fdiv (2 ^ 20) = 32 * h + s2 := by
  rw [fd x (by decide)]
  show x / 1048576 = _
  rw [d.d20, Int.add_comm]
theorem Dg.up (d : Dg x l rd t s1 s2 h) : x.fdiv (2 ^ 12) = t + 8 * s1 + 256 * s2 + 8192 * h := by
  rw [fd x (by decide)]
  exact d.d12
theorem h64 {h : Int} (h0 : 0 ≤ h) (h1 : h < 128) : h / 64 = 0 ∨ h / 64 = 1 := by omega
theorem Dg.sgn (d : Dg x l rd t s1 s2 h) : x.fdiv (2 ^ 31) = h / 64 := by
  rw [fd x (by decide)]
  show x / 2147483648 = _
  rw [show (2147483648 : Int) = 33554432 * 64 from rfl, ← Int.ediv_ediv_of_nonneg (by decide), d.d25]
theorem hi11 {s h : Int} (s0 : 0 ≤ s) (s1 : s < 32) (h0 : 0 ≤ h) (h1 : h < 128) : (32 * h + s) / 2048 % 2 = h / 64 := by omega
theorem Dg.hiF (d : Dg x l rd t s1 s2 h) : hiF x = 32 * h + s2 - 4096 * (h / 64) := by
  unfold Mine.hiF
  rw [d.hi, and_2048 (by have := d.h0; have := d.b0; omega), hi11 d.b0 d.b1 d.h0 d.h1]
  rcases h64 d.h0 d.h1 with e | e
  · rw [e, if_neg (by decide), Int.mul_zero, Int.sub_zero]
  · rw [e, if_pos (by decide), Int.mul_one]
theorem Dg.loF (d : Dg x l rd t s1 s2 h) : loF x = 32 * h + rd - 4096 * (h / 64) := by
  unfold Mine.loF lowF
  rw [d.sgn, d.rdF]
  have e : Builtin.bitOr (x.fdiv (2 ^ 25) * 2 ^ 5) rd = 32 * h + rd := by
    rw [fd x (by decide)]
    show Builtin.bitOr (x / 33554432 * 2 ^ 5) rd = _
    rw [d.d25]
    have h0 := d.h0
    have r0 := d.rd0
    have r1 := d.rd1
    clear d
    rw [oh 0 5 32 1 rfl rfl (by omega) (by omega) (by omega) (by omega) (by omega)]
    omega
  rw [e]
  rcases h64 d.h0 d.h1 with e | e
  · rw [e, if_neg (by decide), Int.mul_zero, Int.sub_zero]
  · rw [e, if_pos (by decide), Int.mul_one]
theorem ohe {a b lo hi c I J : Int} (i j : Nat) (hJ : (2 : Int) ^ j = J) (hI : (2 : Int) ^ i = I) (ea : a = lo + J * hi) (eb : b = I * c) (l0 : 0 ≤ lo) (l1 : lo < I) (IJ : I ≤ J) (h0 : 0 ≤ hi) (c0 : 0 ≤ c) (c1 : I * c < J) : Builtin.bitOr a b = a + b := by
  have I0 : 0 < I := Int.lt_of_le_of_lt l0 l1
  have J0 : 0 < J := Int.lt_of_lt_of_le I0 IJ
  refine oh i j J I hJ hI ?_ ?_ ?_ ?_ ?_
  · rw [ea]; exact Int.add_nonneg l0 (Int.mul_nonneg (Int.le_of_lt J0) h0)
  · rw [eb]; exact Int.mul_nonneg (Int.le_of_lt I0) c0
  · rw [md l0 (Int.lt_of_lt_of_le l1 IJ) ea]; exact l1
  · rw [eb]; exact Int.mul_emod_right ..
  · rw [eb]; exact c1
theorem ml {I c C : Int} (hI : 0 < I) (h : c < C) : I * c < I * C := Int.mul_lt_mul_of_pos_left h hI
theorem put20 {l t : Int} (l0 : 0 ≤ l) (l1 : l < 128) (t0 : 0 ≤ t) (t1 : t < 8) {r a c : Int} (r0 : 0 ≤ r) (r1 : r < 32) (a0 : 0 ≤ a) (a1 : a < 32) (c0 : 0 ≤ c) (c1 : c < 4096) :
    Builtin.bitOr (l + 128 * r + 4096 * t + 32768 * a + 1048576 * 0 + 33554432 * 0) (c * 2 ^ 20) = l + 128 * r + 4096 * t + 32768 * a + 1048576 * c := by
  have q7 := le2 l0 l1 r0 r1 (show (0 : Int) < 128 by decide)
  have q12 := le2 q7.1 q7.2 t0 t1 (show (0 : Int) < 4096 by decide)
  have q15 := le2 q12.1 q12.2 a0 a1 (show (0 : Int) < 32768 by decide)
  rw [Int.mul_zero, Int.mul_zero, Int.add_zero, Int.add_zero, ohe (b := c * 2 ^ 20) (lo := l + 128 * r + 4096 * t + 32768 * a) (hi := 0) (c := c) (I := 1048576) (J := 4294967296) 20 32 rfl rfl (by rw [Int.mul_zero, Int.add_zero]) (Int.mul_comm ..) q15.1 q15.2 (by decide) (by decide) c0 (ml (by decide) c1), Int.mul_comm c]
  rfl
theorem lin20 (l r t a b h : Int) : l + 128 * r + 4096 * t + 32768 * a + 1048576 * (32 * h + b) = l + 128 * r + 4096 * t + 32768 * a + 1048576 * b + 33554432 * h := by omega
theorem sub4096 (a b : Int) : (a - 4096 * b) % 4096 = a % 4096 := Int.sub_mul_emod_self_left ..
theorem enc_base {sv : Int} (d : Dg x l rd t s1 s2 h) (v0 : 0 ≤ sv) (v1 : sv < 128) {r a b : Int} (r0 : 0 ≤ r) (r1 : r < 32) (a0 : 0 ≤ a) (a1 : a < 32) (b0 : 0 ≤ b) (b1 : b < 32) :
    Builtin.bitOr (Builtin.bitOr (Builtin.bitOr (fixF l t sv) (r * 2 ^ 7)) (a * 2 ^ 15)) (b * 2 ^ 20) = l + 128 * r + 4096 * t + 32768 * a + 1048576 * b + 33554432 * sv := by
  obtain ⟨l0, l1, t0, t1⟩ : 0 ≤ l ∧ l < 128 ∧ 0 ≤ t ∧ t < 8 := ⟨d.l0, d.l1, d.t0, d.t1⟩
  clear d
  have e1 : fixF l t sv = l + 4096 * (t + 8192 * sv) := by
    unfold fixF
    rw [ohe (a := sv * 2 ^ 25) (b := t * 2 ^ 12) (lo := 0) (hi := 1024 * sv) (c := t) (I := 4096) (J := 32768) 12 15 rfl rfl (by omega) (by omega) (by decide) (by decide) (by decide) (by omega) t0 (ml (by decide) t1),
      ohe (lo := 0) (hi := 32 * t + 262144 * sv) (c := l) (I := 1) (J := 128) 0 7 rfl rfl (by omega) (by omega) (by decide) (by decide) (by decide) (by omega) l0 (by omega)]
    omega
  have q7 := le2 l0 l1 r0 r1 (show (0 : Int) < 128 by decide)
  have q12 := le2 q7.1 q7.2 t0 t1 (show (0 : Int) < 4096 by decide)
  have q15 := le2 q12.1 q12.2 a0 a1 (show (0 : Int) < 32768 by decide)
  have e2 : Builtin.bitOr (l + 4096 * (t + 8192 * sv)) (r * 2 ^ 7) = l + 128 * r + 4096 * t + 32768 * (1024 * sv) := by
    rw [ohe (a := l + 4096 * (t + 8192 * sv)) (b := r * 2 ^ 7) (lo := l) (hi := t + 8192 * sv) (c := r) (I := 128) (J := 4096) 7 12 rfl rfl rfl (by omega) l0 l1 (by decide) (by omega) r0 (ml (by decide) r1)]
    omega
  have e3 : Builtin.bitOr (l + 128 * r + 4096 * t + 32768 * (1024 * sv)) (a * 2 ^ 15) = l + 128 * r + 4096 * t + 32768 * a + 1048576 * (32 * sv) := by
    rw [ohe (a := l + 128 * r + 4096 * t + 32768 * (1024 * sv)) (b := a * 2 ^ 15) (lo := l + 128 * r + 4096 * t) (hi := 32 * sv) (c := a) (I := 32768) (J := 1048576) 15 20 rfl rfl (by omega) (by omega) q12.1 q12.2 (by decide) (by omega) a0 (ml (by decide) a1)]
    omega
  have e4 : Builtin.bitOr (l + 128 * r + 4096 * t + 32768 * a + 1048576 * (32 * sv)) (b * 2 ^ 20) = l + 128 * r + 4096 * t + 32768 * a + 1048576 * b + 33554432 * sv := by
    rw [ohe (a := l + 128 * r + 4096 * t + 32768 * a + 1048576 * (32 * sv)) (b := b * 2 ^ 20) (lo := l + 128 * r + 4096 * t + 32768 * a) (hi := sv) (c := b) (I := 1048576) (J := 33554432) 20 25 rfl rfl (by omega) (by omega) q15.1 q15.2 (by decide) v0 b0 (ml (by decide) b1)]
    omega
  rw [e1, e2, e3, e4]
end
theorem okF_yes {us : List Str} {rg : Option (Int × Int × Int)} {nm : Str} {i : Int} (h : us.any (· == nm) = true) (hi : (nm == "imm") = false) (hc : (nm == "csr") = false) (h0 : 0 ≤ i) (h1 : i < 32) : okField us rg nm i = true := by
  unfold okField
  rw [h, if_pos rfl, hi, hc]
  simp [h0, h1]
theorem okF_csr {us : List Str} {rg : Option (Int × Int × Int)} {i : Int} (h : us.any (· == "csr") = true) (h0 : 0 ≤ i) (h1 : i < 4096) : okField us rg "csr" i = true := by
  unfold okField
  rw [h, if_pos rfl, if_neg (by decide), if_pos (by decide)]
  simp [h0, h1]
theorem okF_imm {us : List Str} {lo hi st i : Int} (h : us.any (· == "imm") = true) (h0 : lo ≤ i) (h1 : i ≤ hi) (h2 : i.fmod st = 0) (h3 : st ≠ 0) : okField us (some (lo, hi, st)) "imm" i = true := by
  unfold okField
  rw [h, if_pos rfl, if_pos (by decide)]
  simp [h0, h1, h2, h3]
theorem okF_no {us : List Str} {rg : Option (Int × Int × Int)} {nm : Str} (h : us.any (· == nm) = false) : okField us rg nm 0 = true := by
  unfold okField
  rw [h, if_neg (by decide)]
  rfl
noncomputable def RT (x : Int) (kd : Str) (o th sv : Int) : Prop := ∀ rd rs1 rs2 imm csr, decF kd x = (rd, rs1, rs2, imm, csr) →
  encF kd o th sv rd rs1 rs2 imm csr = x ∧ ∃ us rg, kindTab.lookup kd = some (us, rg) ∧ okField us rg "rd" rd = true ∧ okField us rg "rs1" rs1 = true ∧ okField us rg "rs2" rs2 = true ∧ okField us rg "imm" imm = true ∧ okField us rg "csr" csr = true ∧
    rd.natAbs < 2 ^ 40 ∧ rs1.natAbs < 2 ^ 40 ∧ rs2.natAbs < 2 ^ 40 ∧ imm.natAbs < 2 ^ 40 ∧ csr.natAbs < 2 ^ 40
theorem RT.of {x : Int} {kd : Str} {o th sv r a b i c : Int} {us : List Str} {rg : Option (Int × Int × Int)} (hd : decF kd x = (r, a, b, i, c)) (he : encF kd o th sv r a b i c = x) (hk : kindTab.lookup kd = some (us, rg)) (h1 : okField us rg "rd" r = true) (h2 : okField us rg "rs1" a = true) (h3 : okField us rg "rs2" b = true) (h4 : okField us rg "imm" i = true) (h5 : okField us rg "csr" c = true)
    (b1 : r.natAbs < 2 ^ 40) (b2 : a.natAbs < 2 ^ 40) (b3 : b.natAbs < 2 ^ 40) (b4 : i.natAbs < 2 ^ 40) (b5 : c.natAbs < 2 ^ 40) : RT x kd o th sv := fun rd rs1 rs2 imm csr e => by
  rw [hd] at e
  obtain ⟨rfl, rfl, rfl, rfl, rfl⟩ : r = rd ∧ a = rs1 ∧ b = rs2 ∧ i = imm ∧ c = csr := by
    simpa using e
  exact ⟨he, us, rg, hk, h1, h2, h3, h4, h5, b1, b2, b3, b4, b5⟩
theorem na {i : Int} (h0 : 0 ≤ i) (h1 : i < 32) : i.natAbs < 2 ^ 40 := by omega
theorem nb {i : Int} (h0 : -2000000 ≤ i) (h1 : i ≤ 2000000) : i.natAbs < 2 ^ 40 := by omega
theorem fm1 (i : Int) : i.fmod 1 = 0 := by rw [fm _ (by decide)]; exact Int.emod_one i
theorem imS {s h : Int} (s0 : 0 ≤ s) (s1 : s < 32) (h0 : 0 ≤ h) (h1 : h < 128) : -2048 ≤ 32 * h + s - 4096 * (h / 64) ∧ 32 * h + s - 4096 * (h / 64) ≤ 2047 ∧ (32 * h + s - 4096 * (h / 64)).natAbs < 2 ^ 40 := by
  have e : -2048 ≤ 32 * h + s - 4096 * (h / 64) ∧ 32 * h + s - 4096 * (h / 64) ≤ 2047 := by omega
  exact ⟨e.1, e.2, nb (Int.le_trans (by decide) e.1) (Int.le_trans e.2 (by decide))⟩
theorem imF {s h : Int} (s0 : 0 ≤ s) (s1 : s < 32) (h0 : 0 ≤ h) (h1 : h < 128) : 0 ≤ 32 * h + s ∧ 32 * h + s ≤ 4095 ∧ (32 * h + s).natAbs < 2 ^ 40 ∧ 32 * h + s < 4096 := by omega
theorem im5 {s : Int} (s0 : 0 ≤ s) (s1 : s < 32) : 0 ≤ s ∧ s ≤ 31 ∧ s.natAbs < 2 ^ 40 := ⟨s0, Int.le_of_lt_add_one s1, na s0 s1⟩
theorem imU {t a b h : Int} (t0 : 0 ≤ t) (t1 : t < 8) (a0 : 0 ≤ a) (a1 : a < 32) (b0 : 0 ≤ b) (b1 : b < 32) (h0 : 0 ≤ h) (h1 : h < 128) : 0 ≤ t + 8 * a + 256 * b + 8192 * h ∧ t + 8 * a + 256 * b + 8192 * h ≤ 1048575 ∧ (t + 8 * a + 256 * b + 8192 * h).natAbs < 2 ^ 40 := by
  have e : 0 ≤ t + 8 * a + 256 * b + 8192 * h ∧ t + 8 * a + 256 * b + 8192 * h ≤ 1048575 := by omega
  exact ⟨e.1, e.2, nb (Int.le_trans (by decide) e.1) (Int.le_trans e.2 (by decide))⟩
theorem imJ {t a b h : Int} (t0 : 0 ≤ t) (t1 : t < 8) (a0 : 0 ≤ a) (a1 : a < 32) (b0 : 0 ≤ b) (b1 : b < 32) (h0 : 0 ≤ h) (h1 : h < 128) : -1048576 ≤ (t + 8 * a) * 4096 + (b % 2) * 2048 + (b / 2 + 16 * (h % 64)) * 2 - 1048576 * (h / 64) ∧ (t + 8 * a) * 4096 + (b % 2) * 2048 + (b / 2 + 16 * (h % 64)) * 2 - 1048576 * (h / 64) ≤ 1048574 ∧ ((t + 8 * a) * 4096 + (b % 2) * 2048 + (b / 2 + 16 * (h % 64)) * 2 - 1048576 * (h / 64)).natAbs < 2 ^ 40 ∧ ((t + 8 * a) * 4096 + (b % 2) * 2048 + (b / 2 + 16 * (h % 64)) * 2 - 1048576 * (h / 64)) % 2 = 0 := by
  have e : -1048576 ≤ (t + 8 * a) * 4096 + (b % 2) * 2048 + (b / 2 + 16 * (h % 64)) * 2 - 1048576 * (h / 64) ∧ (t + 8 * a) * 4096 + (b % 2) * 2048 + (b / 2 + 16 * (h % 64)) * 2 - 1048576 * (h / 64) ≤ 1048574 := by omega
  exact ⟨e.1, e.2, nb (Int.le_trans (by decide) e.1) (Int.le_trans e.2 (by decide)), by omega⟩
theorem imB {r h : Int} (r0 : 0 ≤ r) (r1 : r < 32) (h0 : 0 ≤ h) (h1 : h < 128) : -4096 ≤ (r % 2) * 2048 + (r / 2) * 2 + (h % 64) * 32 - 4096 * (h / 64) ∧ (r % 2) * 2048 + (r / 2) * 2 + (h % 64) * 32 - 4096 * (h / 64) ≤ 4094 ∧ ((r % 2) * 2048 + (r / 2) * 2 + (h % 64) * 32 - 4096 * (h / 64)).natAbs < 2 ^ 40 ∧ ((r % 2) * 2048 + (r / 2) * 2 + (h % 64) * 32 - 4096 * (h / 64)) % 2 = 0 := by
  have e : -4096 ≤ (r % 2) * 2048 + (r / 2) * 2 + (h % 64) * 32 - 4096 * (h / 64) ∧ (r % 2) * 2048 + (r / 2) * 2 + (h % 64) * 32 - 4096 * (h / 64) ≤ 4094 := by omega
  exact ⟨e.1, e.2, nb (Int.le_trans (by decide) e.1) (Int.le_trans e.2 (by decide)), by omega⟩
section
variable {x l rd t s1 s2 h : Int}
theorem rt_I (d : Dg x l rd t s1 s2 h) : RT x "I" l t 0 := by
  have hd : decF "I" x = (rd, s1, 0, 32 * h + s2 - 4096 * (h / 64), 0) := by
    rw [show decF "I" x = (Mine.rdF x, Mine.rs1F x, 0, Mine.hiF x, 0) from rfl, d.rdF, d.rs1F, d.hiF]
  have eb := enc_base (sv := 0) d (by decide) (by decide) d.rd0 d.rd1 d.a0 d.a1 (show (0 : Int) ≤ 0 by decide) (by decide)
  refine .of hd ?_ rfl (okF_yes (by decide) (by decide) (by decide) d.rd0 d.rd1) (okF_yes (by decide) (by decide) (by decide) d.a0 d.a1) (okF_no (by decide)) (okF_imm (by decide) (imS d.b0 d.b1 d.h0 d.h1).1 (imS d.b0 d.b1 d.h0 d.h1).2.1 (fm1 _) (by decide)) (okF_no (by decide)) (na d.rd0 d.rd1) (na d.a0 d.a1) (by decide) (imS d.b0 d.b1 d.h0 d.h1).2.2 (by decide)
  have q := imF d.b0 d.b1 d.h0 d.h1
  unfold encF
  rw [eb]
  show Builtin.bitOr _ (Builtin.bitAnd _ ((4095 : Nat) : Int) * 2 ^ 20) = x
  rw [and_4095, sub4096, Int.emod_eq_of_lt q.1 q.2.2.2, put20 d.l0 d.l1 d.t0 d.t1 d.rd0 d.rd1 d.a0 d.a1 q.1 q.2.2.2, lin20, ← d.x]
end
section
variable {x l rd t s1 s2 h : Int}
theorem rt_fence (d : Dg x l rd t s1 s2 h) : RT x "fence" l t 0 := by
  have hd : decF "fence" x = (rd, s1, 0, 32 * h + s2, 0) := by
    rw [show decF "fence" x = (Mine.rdF x, Mine.rs1F x, 0, x.fdiv (2 ^ 20), 0) from rfl, d.rdF, d.rs1F, d.hi]
  have eb := enc_base (sv := 0) d (by decide) (by decide) d.rd0 d.rd1 d.a0 d.a1 (show (0 : Int) ≤ 0 by decide) (by decide)
  refine .of hd ?_ rfl (okF_yes (by decide) (by decide) (by decide) d.rd0 d.rd1) (okF_yes (by decide) (by decide) (by decide) d.a0 d.a1) (okF_no (by decide)) (okF_imm (by decide) (imF d.b0 d.b1 d.h0 d.h1).1 (imF d.b0 d.b1 d.h0 d.h1).2.1 (fm1 _) (by decide)) (okF_no (by decide)) (na d.rd0 d.rd1) (na d.a0 d.a1) (by decide) (imF d.b0 d.b1 d.h0 d.h1).2.2.1 (by decide)
  have q := imF d.b0 d.b1 d.h0 d.h1
  unfold encF
  rw [eb]
  show Builtin.bitOr _ (Builtin.bitAnd _ ((4095 : Nat) : Int) * 2 ^ 20) = x
  rw [and_4095, Int.emod_eq_of_lt q.1 q.2.2.2, put20 d.l0 d.l1 d.t0 d.t1 d.rd0 d.rd1 d.a0 d.a1 q.1 q.2.2.2, lin20, ← d.x]
theorem imS7 {r h : Int} (r0 : 0 ≤ r) (r1 : r < 32) (h0 : 0 ≤ h) (h1 : h < 128) : (32 * h + r - 4096 * (h / 64)) / 2 ^ 5 % 128 = h := by omega
theorem imS5 {r h : Int} (r0 : 0 ≤ r) (r1 : r < 32) : (32 * h + r - 4096 * (h / 64)) % 32 = r := by omega
theorem lo20 (d : Dg x l rd t s1 s2 h) : 0 ≤ l + 4096 * t + 32768 * s1 + 1048576 * s2 ∧ l + 4096 * t + 32768 * s1 + 1048576 * s2 < 33554432 := by
  have h1 := d.r20
  have h2 := d.rd0
  have h3 := d.l0
  have h4 := d.t0
  have h5 := d.a0
  have h6 := d.b0
  clear d
  omega
theorem lin12 (l t a b h : Int) : l + 4096 * t + 32768 * a + 1048576 * b + h * 2 ^ 25 = l + 4096 * (t + 8 * a + 256 * b + 8192 * h) := by omega
theorem lin7 (l r t a b h : Int) : l + 4096 * t + 32768 * a + 1048576 * b + h * 2 ^ 25 + r * 2 ^ 7 = l + 128 * r + 4096 * t + 32768 * a + 1048576 * b + 33554432 * h := by omega
theorem rt_S (d : Dg x l rd t s1 s2 h) : RT x "S" l t 0 := by
  have hd : decF "S" x = (0, s1, s2, 32 * h + rd - 4096 * (h / 64), 0) := by
    rw [show decF "S" x = (0, Mine.rs1F x, Mine.rs2F x, Mine.loF x, 0) from rfl, d.rs1F, d.rs2F, d.loF]
  have eb := enc_base (sv := 0) d (by decide) (by decide) (show (0 : Int) ≤ 0 by decide) (by decide) d.a0 d.a1 d.b0 d.b1
  refine .of hd ?_ rfl (okF_no (by decide)) (okF_yes (by decide) (by decide) (by decide) d.a0 d.a1) (okF_yes (by decide) (by decide) (by decide) d.b0 d.b1) (okF_imm (by decide) (imS d.rd0 d.rd1 d.h0 d.h1).1 (imS d.rd0 d.rd1 d.h0 d.h1).2.1 (fm1 _) (by decide)) (okF_no (by decide)) (by decide) (na d.a0 d.a1) (na d.b0 d.b1) (imS d.rd0 d.rd1 d.h0 d.h1).2.2 (by decide)
  have q := imF d.rd0 d.rd1 d.h0 d.h1
  have q0 := d.r20
  unfold encF
  rw [eb]
  show Builtin.bitOr (Builtin.bitOr _ (Builtin.bitAnd ((32 * h + rd - 4096 * (h / 64)).fdiv (2 ^ 5)) ((127 : Nat) : Int) * 2 ^ 25)) (Builtin.bitAnd (32 * h + rd - 4096 * (h / 64)) ((31 : Nat) : Int) * 2 ^ 7) = x
  rw [and_127, and_31, fd _ (by decide), imS7 d.rd0 d.rd1 d.h0 d.h1, imS5 d.rd0 d.rd1, Int.mul_zero, Int.mul_zero, Int.add_zero, Int.add_zero]
  have e1 : Builtin.bitOr (l + 4096 * t + 32768 * s1 + 1048576 * s2) (h * 2 ^ 25) = l + 4096 * t + 32768 * s1 + 1048576 * s2 + h * 2 ^ 25 :=
    ohe (lo := l + 4096 * t + 32768 * s1 + 1048576 * s2) (hi := 0) (c := h) (I := 33554432) (J := 4294967296) 25 32 rfl rfl (by rw [Int.mul_zero, Int.add_zero]) (Int.mul_comm ..) (lo20 d).1 (lo20 d).2 (by decide) (by decide) d.h0 (ml (by decide) d.h1)
  rw [e1, ohe (b := rd * 2 ^ 7) (lo := l) (hi := t + 8 * s1 + 256 * s2 + 8192 * h) (c := rd) (I := 128) (J := 4096) 7 12 rfl rfl (lin12 ..) (Int.mul_comm ..) d.l0 d.l1 (by decide) (imU d.t0 d.t1 d.a0 d.a1 d.b0 d.b1 d.h0 d.h1).1 d.rd0 (ml (by decide) d.rd1), d.x]
  exact lin7 ..
theorem rt_R (d : Dg x l rd t s1 s2 h) : RT x "R" l t h := by
  have hd : decF "R" x = (rd, s1, s2, 0, 0) := by
    rw [show decF "R" x = (Mine.rdF x, Mine.rs1F x, Mine.rs2F x, 0, 0) from rfl, d.rdF, d.rs1F, d.rs2F]
  have eb := enc_base (sv := h) d d.h0 d.h1 d.rd0 d.rd1 d.a0 d.a1 d.b0 d.b1
  refine .of hd ?_ rfl (okF_yes (by decide) (by decide) (by decide) d.rd0 d.rd1) (okF_yes (by decide) (by decide) (by decide) d.a0 d.a1) (okF_yes (by decide) (by decide) (by decide) d.b0 d.b1) (okF_no (by decide)) (okF_no (by decide)) (na d.rd0 d.rd1) (na d.a0 d.a1) (na d.b0 d.b1) (by decide) (by decide)
  unfold encF
  rw [eb]
  exact d.x.symm
theorem rt_shift (d : Dg x l rd t s1 s2 h) : RT x "shift" l t h := by
  have hd : decF "shift" x = (rd, s1, 0, s2, 0) := by
    rw [show decF "shift" x = (Mine.rdF x, Mine.rs1F x, 0, Mine.rs2F x, 0) from rfl, d.rdF, d.rs1F, d.rs2F]
  have eb := enc_base (sv := h) d d.h0 d.h1 d.rd0 d.rd1 d.a0 d.a1 (show (0 : Int) ≤ 0 by decide) (by decide)
  refine .of hd ?_ rfl (okF_yes (by decide) (by decide) (by decide) d.rd0 d.rd1) (okF_yes (by decide) (by decide) (by decide) d.a0 d.a1) (okF_no (by decide)) (okF_imm (by decide) (im5 d.b0 d.b1).1 (im5 d.b0 d.b1).2.1 (fm1 _) (by decide)) (okF_no (by decide)) (na d.rd0 d.rd1) (na d.a0 d.a1) (by decide) (im5 d.b0 d.b1).2.2 (by decide)
  unfold encF
  rw [eb]
  show Builtin.bitOr _ (Builtin.bitAnd _ ((4095 : Nat) : Int) * 2 ^ 20) = x
  rw [and_4095, Int.emod_eq_of_lt d.b0 (Int.lt_trans d.b1 (by decide)), Int.mul_zero, Int.add_zero,
    ohe (b := s2 * 2 ^ 20) (lo := l + 128 * rd + 4096 * t + 32768 * s1) (hi := h) (c := s2) (I := 1048576) (J := 33554432) 20 25 rfl rfl rfl (Int.mul_comm ..) d.r15.1 d.r15.2 (by decide) d.h0 d.b0 (ml (by decide) d.b1), Int.add_right_comm, Int.mul_comm s2]
  exact d.x.symm
theorem rt_flush (d : Dg x l rd t s1 s2 h) (hr : rd = 0) : RT x "flush" l t h := by
  have hd : decF "flush" x = (0, s1, s2, 0, 0) := by
    rw [show decF "flush" x = (0, Mine.rs1F x, Mine.rs2F x, 0, 0) from rfl, d.rs1F, d.rs2F]
  have eb := enc_base (sv := h) d d.h0 d.h1 (show (0 : Int) ≤ 0 by decide) (by decide) d.a0 d.a1 d.b0 d.b1
  refine .of hd ?_ rfl (okF_no (by decide)) (okF_yes (by decide) (by decide) (by decide) d.a0 d.a1) (okF_yes (by decide) (by decide) (by decide) d.b0 d.b1) (okF_no (by decide)) (okF_no (by decide)) (by decide) (na d.a0 d.a1) (na d.b0 d.b1) (by decide) (by decide)
  unfold encF
  rw [eb, d.x, hr]
  rfl
theorem Dg.low (d : Dg x l rd t s1 s2 h) : Dg l l 0 0 0 0 0 := ⟨d.l0, d.l1, by decide, by decide, by decide, by decide, by decide, by decide, by decide, by decide, by decide, by decide, by simp only [Int.mul_zero, Int.add_zero]⟩
theorem linU (l r t a b h : Int) : l + 128 * r + (t + 8 * a + 256 * b + 8192 * h) * 2 ^ 12 = l + 128 * r + 4096 * t + 32768 * a + 1048576 * b + 33554432 * h := by omega
theorem putU (d : Dg x l rd t s1 s2 h) {c : Int} (c0 : 0 ≤ c) (c1 : c < 1048576) : Builtin.bitOr (l + 128 * rd) (c * 2 ^ 12) = l + 128 * rd + c * 2 ^ 12 :=
  ohe (lo := l + 128 * rd) (hi := 0) (c := c) (I := 4096) (J := 4294967296) 12 32 rfl rfl (by rw [Int.mul_zero, Int.add_zero]) (Int.mul_comm ..) d.r7.1 d.r7.2 (by decide) (by decide) c0 (ml (C := 1048576) (by decide) c1)
theorem rt_U (d : Dg x l rd t s1 s2 h) : RT x "U" l 0 0 := by
  have hd : decF "U" x = (rd, 0, 0, t + 8 * s1 + 256 * s2 + 8192 * h, 0) := by
    rw [show decF "U" x = (Mine.rdF x, 0, 0, x.fdiv (2 ^ 12), 0) from rfl, d.rdF, d.up]
  have d0 := d.low
  have eb := enc_base (sv := 0) d0 (by decide) (by decide) d.rd0 d.rd1 (show (0 : Int) ≤ 0 by decide) (by decide) (show (0 : Int) ≤ 0 by decide) (by decide)
  clear d0
  refine .of hd ?_ rfl (okF_yes (by decide) (by decide) (by decide) d.rd0 d.rd1) (okF_no (by decide)) (okF_no (by decide)) (okF_imm (by decide) (imU d.t0 d.t1 d.a0 d.a1 d.b0 d.b1 d.h0 d.h1).1 (imU d.t0 d.t1 d.a0 d.a1 d.b0 d.b1 d.h0 d.h1).2.1 (fm1 _) (by decide)) (okF_no (by decide)) (na d.rd0 d.rd1) (by decide) (by decide) (imU d.t0 d.t1 d.a0 d.a1 d.b0 d.b1 d.h0 d.h1).2.2 (by decide)
  have q := imU d.t0 d.t1 d.a0 d.a1 d.b0 d.b1 d.h0 d.h1
  unfold encF
  rw [eb]
  show Builtin.bitOr _ ((t + 8 * s1 + 256 * s2 + 8192 * h) * 2 ^ 12) = x
  simp only [Int.mul_zero, Int.add_zero]
  rw [putU d q.1 (Int.lt_of_le_sub_one q.2.1), d.x]
  exact linU ..
theorem rt_CSR (d : Dg x l rd t s1 s2 h) : RT x "CSR" l t 0 := by
  have hd : decF "CSR" x = (rd, s1, 0, 0, 32 * h + s2) := by
    rw [show decF "CSR" x = (Mine.rdF x, Mine.rs1F x, 0, 0, x.fdiv (2 ^ 20)) from rfl, d.rdF, d.rs1F, d.hi]
  have eb := enc_base (sv := 0) d (by decide) (by decide) d.rd0 d.rd1 d.a0 d.a1 (show (0 : Int) ≤ 0 by decide) (by decide)
  refine .of hd ?_ rfl (okF_yes (by decide) (by decide) (by decide) d.rd0 d.rd1) (okF_yes (by decide) (by decide) (by decide) d.a0 d.a1) (okF_no (by decide)) (okF_no (by decide)) (okF_csr (by decide) (imF d.b0 d.b1 d.h0 d.h1).1 (imF d.b0 d.b1 d.h0 d.h1).2.2.2) (na d.rd0 d.rd1) (na d.a0 d.a1) (by decide) (by decide) (imF d.b0 d.b1 d.h0 d.h1).2.2.1
  have q := imF d.b0 d.b1 d.h0 d.h1
  unfold encF
  rw [eb]
  show Builtin.bitOr _ ((32 * h + s2) * 2 ^ 20) = x
  rw [put20 d.l0 d.l1 d.t0 d.t1 d.rd0 d.rd1 d.a0 d.a1 q.1 q.2.2.2, lin20, ← d.x]
theorem rt_CSRI (d : Dg x l rd t s1 s2 h) : RT x "CSRI" l t 0 := by
  have hd : decF "CSRI" x = (rd, 0, 0, s1, 32 * h + s2) := by
    rw [show decF "CSRI" x = (Mine.rdF x, 0, 0, Mine.rs1F x, x.fdiv (2 ^ 20)) from rfl, d.rdF, d.rs1F, d.hi]
  have eb := enc_base (sv := 0) d (by decide) (by decide) d.rd0 d.rd1 (show (0 : Int) ≤ 0 by decide) (by decide) (show (0 : Int) ≤ 0 by decide) (by decide)
  refine .of hd ?_ rfl (okF_yes (by decide) (by decide) (by decide) d.rd0 d.rd1) (okF_no (by decide)) (okF_no (by decide)) (okF_imm (by decide) (im5 d.a0 d.a1).1 (im5 d.a0 d.a1).2.1 (fm1 _) (by decide)) (okF_csr (by decide) (imF d.b0 d.b1 d.h0 d.h1).1 (imF d.b0 d.b1 d.h0 d.h1).2.2.2) (na d.rd0 d.rd1) (by decide) (by decide) (im5 d.a0 d.a1).2.2 (imF d.b0 d.b1 d.h0 d.h1).2.2.1
  have q := imF d.b0 d.b1 d.h0 d.h1
  unfold encF
  rw [eb]
  show Builtin.bitOr (Builtin.bitOr _ ((32 * h + s2) * 2 ^ 20)) (s1 * 2 ^ 15) = x
  rw [put20 d.l0 d.l1 d.t0 d.t1 d.rd0 d.rd1 (Int.le_refl 0) (by decide) q.1 q.2.2.2, Int.mul_zero, Int.add_zero,
    ohe (b := s1 * 2 ^ 15) (lo := l + 128 * rd + 4096 * t) (hi := 32 * h + s2) (c := s1) (I := 32768) (J := 1048576) 15 20 rfl rfl rfl (Int.mul_comm ..) d.r12.1 d.r12.2 (by decide) q.1 d.a0 (ml (by decide) d.a1), Int.add_right_comm, Int.mul_comm s1]
  exact (lin20 ..).trans d.x.symm
theorem jbits {a b c : Int} (a0 : 0 ≤ a) (a1 : a < 256) (b0 : 0 ≤ b) (b1 : b < 2) (c0 : 0 ≤ c) (c1 : c < 1024) : Builtin.bitOr (Builtin.bitOr (a * 2 ^ 12) (b * 2 ^ 11)) (c * 2 ^ 1) = a * 4096 + b * 2048 + c * 2 := by
  have e1 : Builtin.bitOr (a * 2 ^ 12) (b * 2 ^ 11) = 2048 * (b + 2 * a) :=
    (ohe (lo := 0) (hi := a) (c := b) (I := 2048) (J := 4096) 11 12 rfl rfl (by omega) (Int.mul_comm ..) (by decide) (by decide) (by decide) a0 b0 (ml (by decide) b1)).trans (by omega)
  rw [e1]
  exact (ohe (lo := 0) (hi := b + 2 * a) (c := c) (I := 2) (J := 2048) 1 11 rfl rfl (Int.zero_add _).symm (Int.mul_comm ..) (by decide) (by decide) (by decide) (by omega) c0 (ml (by decide) c1)).trans (by omega)
theorem s64 {h : Int} (h0 : 0 ≤ h) (h1 : h < 128) : 0 ≤ h % 64 ∧ h % 64 < 64 ∧ h % 64 + 64 * (h / 64) = h := by omega
theorem md2 (s : Int) : 0 ≤ s % 2 ∧ s % 2 < 2 := by omega
theorem g8 {t a b h : Int} (t0 : 0 ≤ t) (t1 : t < 8) (a0 : 0 ≤ a) (a1 : a < 32) : (t + 8 * a + 256 * b + 8192 * h) % 256 = t + 8 * a := by omega
theorem p8 {t a : Int} (t0 : 0 ≤ t) (t1 : t < 8) (a0 : 0 ≤ a) (a1 : a < 32) : 0 ≤ t + 8 * a ∧ t + 8 * a < 256 := by omega
theorem g10 {s h : Int} (s0 : 0 ≤ s) (s1 : s < 32) : (s + 32 * h) / 2 % 1024 = s / 2 + 16 * (h % 64) := by omega
theorem p10 {s g : Int} (s0 : 0 ≤ s) (s1 : s < 32) (g0 : 0 ≤ g) (g1 : g < 64) : 0 ≤ s / 2 + 16 * g ∧ s / 2 + 16 * g < 1024 := by omega
theorem jspread {G C B A : Int} (g0 : 0 ≤ G) (c0 : 0 ≤ C) (c1 : C < 1024) (b0 : 0 ≤ B) (b1 : B < 2) (a0 : 0 ≤ A) (a1 : A < 256) : Builtin.bitOr (Builtin.bitOr (Builtin.bitOr (G * 2 ^ 31) (C * 2 ^ 21)) (B * 2 ^ 20)) (A * 2 ^ 12) = (A + 256 * (B + 2 * (C + 1024 * G))) * 2 ^ 12 := by
  have e1 : Builtin.bitOr (G * 2 ^ 31) (C * 2 ^ 21) = 2097152 * (C + 1024 * G) :=
    (ohe (lo := 0) (hi := G) (c := C) (I := 2097152) (J := 2147483648) 21 31 rfl rfl (by omega) (Int.mul_comm ..) (by decide) (by decide) (by decide) g0 c0 (ml (by decide) c1)).trans (by omega)
  have y : 0 ≤ C + 1024 * G := by omega
  have e2 : Builtin.bitOr (2097152 * (C + 1024 * G)) (B * 2 ^ 20) = 1048576 * (B + 2 * (C + 1024 * G)) :=
    (ohe (lo := 0) (hi := C + 1024 * G) (c := B) (I := 1048576) (J := 2097152) 20 21 rfl rfl (Int.zero_add _).symm (Int.mul_comm ..) (by decide) (by decide) (by decide) y b0 (ml (by decide) b1)).trans (by omega)
  have z : 0 ≤ B + 2 * (C + 1024 * G) := by omega
  rw [e1, e2]
  exact (ohe (lo := 0) (hi := B + 2 * (C + 1024 * G)) (c := A) (I := 4096) (J := 1048576) 12 20 rfl rfl (Int.zero_add _).symm (Int.mul_comm ..) (by decide) (by decide) (by decide) z a0 (ml (by decide) a1)).trans (by omega)
theorem sp2 (s : Int) : s % 2 + 2 * (s / 2) = s := by omega
theorem linJ {l r t a b h p q B G : Int} (e1 : B + 2 * p = b) (e2 : q + 64 * G = h) : l + 128 * r + (t + 8 * a + 256 * (B + 2 * (p + 16 * q + 1024 * G))) * 2 ^ 12 = l + 128 * r + 4096 * t + 32768 * a + 1048576 * b + 33554432 * h := by
  subst e1 e2
  omega
theorem pY {A B C G : Int} (a0 : 0 ≤ A) (a1 : A < 256) (b0 : 0 ≤ B) (b1 : B < 2) (c0 : 0 ≤ C) (c1 : C < 1024) (hs : G = 0 ∨ G = 1) : 0 ≤ A + 256 * (B + 2 * (C + 1024 * G)) ∧ A + 256 * (B + 2 * (C + 1024 * G)) < 1048576 := by omega
theorem Dg.gj (d : Dg x l rd t s1 s2 h) : gjF x = (t + 8 * s1) * 4096 + (s2 % 2) * 2048 + (s2 / 2 + 16 * (h % 64)) * 2 - 1048576 * (h / 64) := by
  unfold gjF gjLow
  show (if x.fdiv (2 ^ 31) != 0 then Builtin.bitOr (Builtin.bitOr (Builtin.bitAnd (x.fdiv (2 ^ 12)) ((255 : Nat) : Int) * 2 ^ 12) (Builtin.bitAnd (x.fdiv (2 ^ 20)) ((1 : Nat) : Int) * 2 ^ 11)) (Builtin.bitAnd (x.fdiv (2 ^ 21)) ((1023 : Nat) : Int) * 2 ^ 1) - 1048576 else Builtin.bitOr (Builtin.bitOr (Builtin.bitAnd (x.fdiv (2 ^ 12)) ((255 : Nat) : Int) * 2 ^ 12) (Builtin.bitAnd (x.fdiv (2 ^ 20)) ((1 : Nat) : Int) * 2 ^ 11)) (Builtin.bitAnd (x.fdiv (2 ^ 21)) ((1023 : Nat) : Int) * 2 ^ 1)) = _
  rw [d.sgn, d.up, d.hi, and_255, and_1, and_1023, fd x (by decide)]
  have q := s64 d.h0 d.h1
  have e1 := g8 d.t0 d.t1 d.a0 d.a1 (b := s2) (h := h)
  have e2 : (32 * h + s2) % 2 = s2 % 2 := by clear d q e1; omega
  have e3 : x / 2 ^ 21 % 1024 = s2 / 2 + 16 * (h % 64) := by
    show x / 2097152 % 1024 = _
    rw [show (2097152 : Int) = 1048576 * 2 from rfl, ← Int.ediv_ediv_of_nonneg (by decide), d.d20]
    exact g10 d.b0 d.b1
  have c := p10 d.b0 d.b1 q.1 q.2.1
  have a := p8 d.t0 d.t1 d.a0 d.a1
  rw [e1, e2, e3, jbits a.1 a.2 (md2 s2).1 (md2 s2).2 c.1 c.2]
  rcases h64 d.h0 d.h1 with e | e
  · rw [e, if_neg (by decide), Int.mul_zero, Int.sub_zero]
  · rw [e, if_pos (by decide), Int.mul_one]
theorem jdig {v : Int} (a b c sg : Int) (a0 : 0 ≤ a) (a1 : a < 256) (b0 : 0 ≤ b) (b1 : b < 2) (c0 : 0 ≤ c) (c1 : c < 1024) (hs : sg = 0 ∨ sg = 1) (e : a * 4096 + b * 2048 + c * 2 - 1048576 * sg = v) : v / 1048576 % 2 = sg ∧ v / 2 % 1024 = c ∧ v / 2048 % 2 = b ∧ v / 4096 % 256 = a := by
  have e1 : v / 1048576 = -sg := by omega
  have e2 : v / 2 = a * 2048 + b * 1024 + c - 524288 * sg := by omega
  have e3 : v / 2048 = a * 2 + b - 512 * sg := by omega
  have e4 : v / 4096 = a - 256 * sg := by omega
  rw [e1, e2, e3, e4]
  refine ⟨?_, ?_, ?_, ?_⟩ <;> omega
theorem rt_J (d : Dg x l rd t s1 s2 h) : RT x "J" l 0 0 := by
  have hd : decF "J" x = (rd, 0, 0, (t + 8 * s1) * 4096 + (s2 % 2) * 2048 + (s2 / 2 + 16 * (h % 64)) * 2 - 1048576 * (h / 64), 0) := by
    rw [show decF "J" x = (Mine.rdF x, 0, 0, gjF x, 0) from rfl, d.rdF, d.gj]
  have d0 := d.low
  have eb := enc_base (sv := 0) d0 (by decide) (by decide) d.rd0 d.rd1 (show (0 : Int) ≤ 0 by decide) (by decide) (show (0 : Int) ≤ 0 by decide) (by decide)
  clear d0
  refine .of hd ?_ rfl (okF_yes (by decide) (by decide) (by decide) d.rd0 d.rd1) (okF_no (by decide)) (okF_no (by decide)) (okF_imm (by decide) (imJ d.t0 d.t1 d.a0 d.a1 d.b0 d.b1 d.h0 d.h1).1 (imJ d.t0 d.t1 d.a0 d.a1 d.b0 d.b1 d.h0 d.h1).2.1 (by rw [fm _ (by decide)]; exact (imJ d.t0 d.t1 d.a0 d.a1 d.b0 d.b1 d.h0 d.h1).2.2.2) (by decide)) (okF_no (by decide)) (na d.rd0 d.rd1) (by decide) (by decide) (imJ d.t0 d.t1 d.a0 d.a1 d.b0 d.b1 d.h0 d.h1).2.2.1 (by decide)
  unfold encF
  rw [eb]
  generalize hv : (t + 8 * s1) * 4096 + (s2 % 2) * 2048 + (s2 / 2 + 16 * (h % 64)) * 2 - 1048576 * (h / 64) = v
  show Builtin.bitOr _ (Builtin.bitOr (Builtin.bitOr (Builtin.bitOr (Builtin.bitAnd (v.fdiv (2 ^ 20)) ((1 : Nat) : Int) * 2 ^ 31) (Builtin.bitAnd (v.fdiv (2 ^ 1)) ((1023 : Nat) : Int) * 2 ^ 21)) (Builtin.bitAnd (v.fdiv (2 ^ 11)) ((1 : Nat) : Int) * 2 ^ 20)) (Builtin.bitAnd (v.fdiv (2 ^ 12)) ((255 : Nat) : Int) * 2 ^ 12)) = x
  have hs := h64 d.h0 d.h1
  have q := s64 d.h0 d.h1
  have c := p10 d.b0 d.b1 q.1 q.2.1
  have a := p8 d.t0 d.t1 d.a0 d.a1
  have m := md2 s2
  have g0 : 0 ≤ h / 64 := Int.ediv_nonneg d.h0 (by decide)
  obtain ⟨q1, q2, q3, q4⟩ := jdig (t + 8 * s1) (s2 % 2) (s2 / 2 + 16 * (h % 64)) (h / 64) a.1 a.2 m.1 m.2 c.1 c.2 hs hv
  have y := pY a.1 a.2 m.1 m.2 c.1 c.2 hs
  rw [and_1, and_1023, and_1, and_255, fd v (by decide), fd v (by decide), fd v (by decide), fd v (by decide), show v / 2 ^ 20 % 2 = h / 64 from q1, show v / 2 ^ 1 % 1024 = s2 / 2 + 16 * (h % 64) from q2, show v / 2 ^ 11 % 2 = s2 % 2 from q3, show v / 2 ^ 12 % 256 = t + 8 * s1 from q4,
    jspread g0 c.1 c.2 m.1 m.2 a.1 a.2, Int.mul_zero, Int.mul_zero, Int.mul_zero, Int.mul_zero, Int.add_zero, Int.add_zero, Int.add_zero, Int.add_zero, putU d y.1 y.2, d.x]
  exact linJ (sp2 s2) q.2.2
theorem gbits {b q s : Int} (b0 : 0 ≤ b) (q0 : 0 ≤ q) (q1 : q < 16) (s0 : 0 ≤ s) (s1 : s < 64) : Builtin.bitOr (Builtin.bitOr (b * 2 ^ 11) (q * 2 ^ 1)) (s * 2 ^ 5) = b * 2048 + q * 2 + s * 32 := by
  have e1 : Builtin.bitOr (b * 2 ^ 11) (q * 2 ^ 1) = q * 2 + 2048 * b :=
    (ohe (lo := 0) (hi := b) (c := q) (I := 2) (J := 2048) 1 11 rfl rfl (by omega) (Int.mul_comm ..) (by decide) (by decide) (by decide) b0 q0 (Int.lt_trans (ml (I := 2) (C := 16) (by decide) q1) (by decide))).trans (by omega)
  rw [e1]
  exact (ohe (lo := q * 2) (hi := b) (c := s) (I := 32) (J := 2048) 5 11 rfl rfl rfl (Int.mul_comm ..) (by omega) (by omega) (by decide) b0 s0 (ml (by decide) s1)).trans (by omega)
theorem bdig {v : Int} (b q s sg : Int) (b0 : 0 ≤ b) (b1 : b < 2) (q0 : 0 ≤ q) (q1 : q < 16) (s0 : 0 ≤ s) (s1 : s < 64) (hs : sg = 0 ∨ sg = 1) (e : b * 2048 + q * 2 + s * 32 - 4096 * sg = v) : v / 4096 % 2 = sg ∧ v / 32 % 64 = s ∧ v / 2 % 16 = q ∧ v / 2048 % 2 = b := by
  have e1 : v / 4096 = -sg := by omega
  have e2 : v / 32 = b * 64 + s - 128 * sg := by omega
  have e3 : v / 2 = b * 1024 + q + s * 16 - 2048 * sg := by omega
  have e4 : v / 2048 = b - 2 * sg := by omega
  rw [e1, e2, e3, e4]
  refine ⟨?_, ?_, ?_, ?_⟩ <;> omega
theorem r16 {r : Int} (r0 : 0 ≤ r) (r1 : r < 32) : 0 ≤ r / 2 ∧ r / 2 < 16 := by omega
theorem q78 {r y : Int} (r0 : 0 ≤ r) (r1 : r < 32) : (r + 32 * y) % 2 = r % 2 ∧ (r + 32 * y) / 2 % 16 = r / 2 := by omega
theorem Dg.gb (d : Dg x l rd t s1 s2 h) : gbF x = (rd % 2) * 2048 + (rd / 2) * 2 + (h % 64) * 32 - 4096 * (h / 64) := by
  unfold gbF gbLow
  rw [d.sgn, and_1, and_15, and_63, fd x (by decide), fd x (by decide), fd x (by decide)]
  obtain ⟨e1, e2⟩ := q78 (y := t + 8 * s1 + 256 * s2 + 8192 * h) d.rd0 d.rd1
  rw [show x / 2 ^ 7 % 2 = rd % 2 by (show x / 128 % 2 = rd % 2; rw [d.d7]; exact e1), show x / 2 ^ 8 % 16 = rd / 2 by (show x / 256 % 16 = rd / 2; rw [show (256 : Int) = 128 * 2 from rfl, ← Int.ediv_ediv_of_nonneg (by decide), d.d7]; exact e2), show x / 2 ^ 25 % 64 = h % 64 by (show x / 33554432 % 64 = h % 64; rw [d.d25])]
  have r0 := d.rd0
  have r1 := d.rd1
  have h0 := d.h0
  have h1 := d.h1
  clear d e1 e2
  rw [gbits (md2 rd).1 (r16 r0 r1).1 (r16 r0 r1).2 (s64 h0 h1).1 (s64 h0 h1).2.1]
  rcases h64 h0 h1 with e | e
  · rw [e, if_neg (by decide), Int.mul_zero, Int.sub_zero]
  · rw [e, if_pos (by decide), Int.mul_one]
theorem nat_split {a b k : Nat} (h1 : a % 2 ^ k &&& b % 2 ^ k = 0) (h2 : a / 2 ^ k &&& b / 2 ^ k = 0) : a &&& b = 0 := by
  apply Nat.eq_of_testBit_eq
  intro j
  rw [Nat.testBit_and, Nat.zero_testBit]
  by_cases hj : j < k
  · have e := congrArg (fun n => Nat.testBit n j) h1
    simp only [Nat.testBit_and, Nat.testBit_mod_two_pow, hj, decide_true, Bool.true_and, Nat.zero_testBit] at e
    exact e
  · have e := congrArg (fun n => Nat.testBit n (j - k)) h2
    simp only [Nat.testBit_and, Nat.testBit_div_two_pow, Nat.zero_testBit] at e
    rw [show j - k + k = j by omega] at e
    exact e
theorem or_two {l u q v : Nat} (h1 : l < 128) (h2 : q < 4096) (h3 : q % 128 = 0) (h4 : u < 8192) (h5 : v % 8192 = 0) : (l + 4096 * u) &&& (q + 4096 * v) = 0 := by
  refine nat_split (k := 12) ?_ ?_
  · rw [show (l + 4096 * u) % 2 ^ 12 = l by omega, show (q + 4096 * v) % 2 ^ 12 = q by omega]
    exact nat_hole (i := 7) (j := 12) (by omega) (by omega) (by omega)
  · rw [show (l + 4096 * u) / 2 ^ 12 = u by omega, show (q + 4096 * v) / 2 ^ 12 = v by omega, Nat.and_comm]
    exact nat_hole (i := 0) (j := 13) (a := v) (b := u) (by omega) (by omega) (by omega)
theorem bput {l u q v : Nat} (h1 : l < 128) (h2 : u < 8192) (h3 : q < 32) : Builtin.bitOr ((l : Int) + 4096 * u) (128 * (q : Int) + 33554432 * v) = (l : Int) + 4096 * u + (128 * (q : Int) + 33554432 * v) := by
  have e := or_two (l := l) (u := u) (q := 128 * q) (v := 8192 * v) h1 (by omega) (by omega) h2 (by omega)
  rw [bitOr_and, show (l : Int) + 4096 * u = ((l + 4096 * u : Nat) : Int) by push_cast; rfl, show 128 * (q : Int) + 33554432 * v = ((128 * q + 4096 * (8192 * v) : Nat) : Int) by omega, bitAnd_pp (Int.natCast_nonneg _) (Int.natCast_nonneg _), Int.toNat_natCast, Int.toNat_natCast, e]
  omega
theorem bput' {l u q v : Int} (l0 : 0 ≤ l) (h1 : l < 128) (u0 : 0 ≤ u) (h2 : u < 8192) (q0 : 0 ≤ q) (h3 : q < 32) (v0 : 0 ≤ v) : Builtin.bitOr (l + 4096 * u) (128 * q + 33554432 * v) = l + 4096 * u + (128 * q + 33554432 * v) := by
  obtain ⟨l, rfl⟩ := Int.eq_ofNat_of_zero_le l0
  obtain ⟨u, rfl⟩ := Int.eq_ofNat_of_zero_le u0
  obtain ⟨q, rfl⟩ := Int.eq_ofNat_of_zero_le q0
  obtain ⟨v, rfl⟩ := Int.eq_ofNat_of_zero_le v0
  exact bput (by omega) (by omega) (by omega)
theorem bspread {sg s q b : Int} (g0 : 0 ≤ sg) (s0 : 0 ≤ s) (s1 : s < 64) (q0 : 0 ≤ q) (q1 : q < 16) (b0 : 0 ≤ b) (b1 : b < 2) : Builtin.bitOr (Builtin.bitOr (Builtin.bitOr (sg * 2 ^ 31) (s * 2 ^ 25)) (q * 2 ^ 8)) (b * 2 ^ 7) = 128 * (b + 2 * q) + 33554432 * (s + 64 * sg) := by
  have e1 : Builtin.bitOr (sg * 2 ^ 31) (s * 2 ^ 25) = 33554432 * (s + 64 * sg) :=
    (ohe (lo := 0) (hi := sg) (c := s) (I := 33554432) (J := 2147483648) 25 31 rfl rfl (by omega) (Int.mul_comm ..) (by decide) (by decide) (by decide) g0 s0 (ml (by decide) s1)).trans (by omega)
  have y : 0 ≤ s + 64 * sg := by omega
  have e2 : Builtin.bitOr (33554432 * (s + 64 * sg)) (q * 2 ^ 8) = 256 * (q + 131072 * (s + 64 * sg)) :=
    (ohe (lo := 0) (hi := s + 64 * sg) (c := q) (I := 256) (J := 33554432) 8 25 rfl rfl (Int.zero_add _).symm (Int.mul_comm ..) (by decide) (by decide) (by decide) y q0 (Int.lt_trans (ml (I := 256) (C := 16) (by decide) q1) (by decide))).trans (by omega)
  have z : 0 ≤ q + 131072 * (s + 64 * sg) := by omega
  rw [e1, e2]
  exact (ohe (lo := 0) (hi := q + 131072 * (s + 64 * sg)) (c := b) (I := 128) (J := 256) 7 8 rfl rfl (Int.zero_add _).symm (Int.mul_comm ..) (by decide) (by decide) (by decide) z b0 (ml (by decide) b1)).trans (by omega)
theorem bfin {v : Int} (l0 : 0 ≤ l) (l1 : l < 128) (rd0 : 0 ≤ rd) (rd1 : rd < 32) (t0 : 0 ≤ t) (t1 : t < 8) (a0 : 0 ≤ s1) (a1 : s1 < 32) (b0 : 0 ≤ s2) (b1 : s2 < 32) (h0 : 0 ≤ h) (h1 : h < 128) (hx : x = l + 128 * rd + 4096 * t + 32768 * s1 + 1048576 * s2 + 33554432 * h) (hv : (rd % 2) * 2048 + (rd / 2) * 2 + (h % 64) * 32 - 4096 * (h / 64) = v) :
    Builtin.bitOr (l + 128 * 0 + 4096 * t + 32768 * s1 + 1048576 * s2 + 33554432 * 0) (Builtin.bitOr (Builtin.bitOr (Builtin.bitOr (v / 2 ^ 12 % 2 * 2 ^ 31) (v / 2 ^ 5 % 64 * 2 ^ 25)) (v / 2 ^ 1 % 16 * 2 ^ 8)) (v / 2 ^ 11 % 2 * 2 ^ 7)) = x := by
  have hr : 0 ≤ rd % 2 ∧ rd % 2 < 2 ∧ 0 ≤ rd / 2 ∧ rd / 2 < 16 ∧ rd % 2 + 2 * (rd / 2) = rd := by
    clear hx hv l0 l1 t0 t1 a0 a1 b0 b1 h0 h1
    omega
  have hh : 0 ≤ h % 64 ∧ h % 64 < 64 ∧ h % 64 + 64 * (h / 64) = h := by
    clear hx hv l0 l1 t0 t1 a0 a1 b0 b1 rd0 rd1 hr
    omega
  have hs := h64 h0 h1
  obtain ⟨q1, q2, q3, q4⟩ := bdig (rd % 2) (rd / 2) (h % 64) (h / 64) hr.1 hr.2.1 hr.2.2.1 hr.2.2.2.1 hh.1 hh.2.1 hs hv
  have hg : 0 ≤ h / 64 ∧ h / 64 < 2 := by rcases hs with e | e <;> rw [e] <;> decide
  rw [show v / 2 ^ 12 % 2 = h / 64 from q1, show v / 2 ^ 5 % 64 = h % 64 from q2, show v / 2 ^ 1 % 16 = rd / 2 from q3, show v / 2 ^ 11 % 2 = rd % 2 from q4, bspread hg.1 hh.1 hh.2.1 hr.2.2.1 hr.2.2.2.1 hr.1 hr.2.1, hr.2.2.2.2, hh.2.2]
  have hu := le2 t0 t1 (le2 a0 a1 b0 b1 (by decide)).1 (le2 a0 a1 b0 b1 (by decide)).2 (show (0 : Int) < 8 by decide)
  rw [show l + 128 * 0 + 4096 * t + 32768 * s1 + 1048576 * s2 + 33554432 * 0 = l + 4096 * (t + 8 * (s1 + 32 * s2)) by (clear hx hv; omega), bput' l0 l1 hu.1 hu.2 rd0 rd1 h0, hx]
  clear hx hv
  omega
theorem rt_B (d : Dg x l rd t s1 s2 h) : RT x "B" l t 0 := by
  have hd : decF "B" x = (0, s1, s2, (rd % 2) * 2048 + (rd / 2) * 2 + (h % 64) * 32 - 4096 * (h / 64), 0) := by
    rw [show decF "B" x = (0, Mine.rs1F x, Mine.rs2F x, gbF x, 0) from rfl, d.rs1F, d.rs2F, d.gb]
  have eb := enc_base (sv := 0) d (by decide) (by decide) (show (0 : Int) ≤ 0 by decide) (by decide) d.a0 d.a1 d.b0 d.b1
  refine .of hd ?_ rfl (okF_no (by decide)) (okF_yes (by decide) (by decide) (by decide) d.a0 d.a1) (okF_yes (by decide) (by decide) (by decide) d.b0 d.b1) (okF_imm (by decide) (imB d.rd0 d.rd1 d.h0 d.h1).1 (imB d.rd0 d.rd1 d.h0 d.h1).2.1 (by rw [fm _ (by decide)]; exact (imB d.rd0 d.rd1 d.h0 d.h1).2.2.2) (by decide)) (okF_no (by decide)) (by decide) (na d.a0 d.a1) (na d.b0 d.b1) (imB d.rd0 d.rd1 d.h0 d.h1).2.2.1 (by decide)
  obtain ⟨l0, l1, rd0, rd1, t0, t1, a0, a1, b0, b1, h0, h1, hx⟩ := d
  unfold encF
  rw [eb]
  generalize hv : (rd % 2) * 2048 + (rd / 2) * 2 + (h % 64) * 32 - 4096 * (h / 64) = v
  show Builtin.bitOr _ (Builtin.bitOr (Builtin.bitOr (Builtin.bitOr (Builtin.bitAnd (v.fdiv (2 ^ 12)) ((1 : Nat) : Int) * 2 ^ 31) (Builtin.bitAnd (v.fdiv (2 ^ 5)) ((63 : Nat) : Int) * 2 ^ 25)) (Builtin.bitAnd (v.fdiv (2 ^ 1)) ((15 : Nat) : Int) * 2 ^ 8)) (Builtin.bitAnd (v.fdiv (2 ^ 11)) ((1 : Nat) : Int) * 2 ^ 7)) = x
  rw [and_1, and_63, and_15, and_1, fd v (by decide), fd v (by decide), fd v (by decide), fd v (by decide)]
  exact bfin l0 l1 rd0 rd1 t0 t1 a0 a1 b0 b1 h0 h1 hx hv
end
noncomputable def opcOk (p : Int × Nat) : Bool := match shT.lookup p.2 with | some (_, kd, o, th, sv) => (kd == "U" || kd == "J") && o == p.1 && th == 0 && sv == 0 | none => false
noncomputable def thirdOk (p : Int × Nat) : Bool := match shT.lookup p.2 with | some (_, kd, o, th, sv) => (kd == "I" || kd == "B" || kd == "S" || kd == "fence" || kd == "CSR" || kd == "CSRI") && o + 4096 * th == p.1 && decide (0 ≤ o) && decide (o < 128) && sv == 0 | none => false
noncomputable def sevOk (p : Int × Nat) : Bool := match shT.lookup p.2 with | some (_, kd, o, th, sv) => (kd == "R" || kd == "shift" || kd == "flush") && o + 4096 * th + 33554432 * sv == p.1 && decide (0 ≤ o) && decide (o < 128) && decide (0 ≤ th) && decide (th < 8) | none => false
theorem opc_all : tOpc.all opcOk = true := by decide +kernel
theorem third_all : tThird.all thirdOk = true := by decide +kernel
theorem sev_all : tSev.all sevOk = true := by decide +kernel
theorem name_all : shT.all (fun r => tName.lookup r.2.1 == some r.1) = true := by decide +kernel
theorem kindOf_row {a : Nat} {nm kd : Str} {o th sv : Int} (h : shT.lookup a = some (nm, kd, o, th, sv)) : kindOf a = kd := by
  unfold kindOf; rw [h]; rfl
theorem shape_cases {x : Int} {a : Nat} (h0 : 0 ≤ x) (hs : shapeOf x = some a) : (x % 128, a) ∈ tOpc ∨ (x % 128 + 4096 * (x / 4096 % 8), a) ∈ tThird ∨ ((x % 128 + 4096 * (x / 4096 % 8) + 33554432 * (x / 33554432 % 128), a) ∈ tSev ∧ ((kindOf a == "flush") = true → x / 128 % 32 = 0)) ∨ (x, a) ∈ tWhole := by
  rw [shape_eq h0] at hs
  unfold sh1 at hs
  split at hs
  · next b e => cases hs; exact .inl (lookup_mem e)
  · split at hs
    · next b e => cases hs; exact .inr (.inl (lookup_mem e))
    · split at hs
      · next b e =>
        split at hs
        · cases hs
        · next hne =>
          cases hs
          refine .inr (.inr (.inl ⟨lookup_mem e, fun hf => ?_⟩))
          rw [hf] at hne
          simpa using hne
      · exact .inr (.inr (.inr (lookup_mem hs)))
theorem rt_all {x : Int} {a : Nat} {nm kd : Str} {o th sv : Int} (h0 : 0 ≤ x) (h1 : x < 4294967296) (hs : shapeOf x = some a) (hr : shT.lookup a = some (nm, kd, o, th, sv)) : RT x kd o th sv := by
  have d := dg_of h0 h1
  rcases shape_cases h0 hs with h | h | ⟨h, hf⟩ | h
  · have f := List.all_eq_true.mp opc_all _ h
    unfold opcOk at f
    rw [hr] at f
    simp only [Bool.and_eq_true, Bool.or_eq_true, beq_iff_eq] at f
    obtain ⟨⟨⟨hk, rfl⟩, rfl⟩, rfl⟩ := f
    rcases hk with rfl | rfl
    · exact rt_U d
    · exact rt_J d
  · have f := List.all_eq_true.mp third_all _ h
    unfold thirdOk at f
    rw [hr] at f
    simp only [Bool.and_eq_true, Bool.or_eq_true, beq_iff_eq, decide_eq_true_eq] at f
    obtain ⟨⟨⟨⟨hk, e⟩, o0⟩, o1⟩, rfl⟩ := f
    obtain ⟨rfl, rfl⟩ : o = x % 128 ∧ th = x / 4096 % 8 := by omega
    rcases hk with ((((rfl | rfl) | rfl) | rfl) | rfl) | rfl
    · exact rt_I d
    · exact rt_B d
    · exact rt_S d
    · exact rt_fence d
    · exact rt_CSR d
    · exact rt_CSRI d
  · have f := List.all_eq_true.mp sev_all _ h
    unfold sevOk at f
    rw [hr] at f
    simp only [Bool.and_eq_true, Bool.or_eq_true, beq_iff_eq, decide_eq_true_eq] at f
    obtain ⟨⟨⟨⟨⟨hk, e⟩, o0⟩, o1⟩, t0⟩, t1⟩ := f
    obtain ⟨rfl, rfl, rfl⟩ : o = x % 128 ∧ th = x / 4096 % 8 ∧ sv = x / 33554432 := by omega
    rcases hk with (rfl | rfl) | rfl
    · exact rt_R d
    · exact rt_shift d
    · exact rt_flush d (hf (by rw [kindOf_row hr]; decide))
  · have hm : x ∈ tWhole.map (·.1) := List.mem_map_of_mem h
    rw [whole_keys] at hm
    have hw : ∀ p ∈ tWhole, ∃ nm : Str, shT.lookup p.2 = some (nm, ("system" : Str), p.1, (0 : Int), (0 : Int)) := by
      have : tWhole.all (fun p => match shT.lookup p.2 with | some (_, kd, o, th, sv) => kd == "system" && o == p.1 && th == 0 && sv == 0 | none => false) = true := by decide +kernel
      intro p hp
      have f := List.all_eq_true.mp this p hp
      revert f
      cases hq : shT.lookup p.2 with
      | none => intro f; cases f
      | some r =>
        obtain ⟨nm, kd, o, th, sv⟩ := r
        intro f
        simp only [Bool.and_eq_true, beq_iff_eq] at f
        obtain ⟨⟨⟨rfl, rfl⟩, rfl⟩, rfl⟩ := f
        exact ⟨nm, rfl⟩
    obtain ⟨nm', e⟩ := hw _ h
    rw [hr] at e
    cases e
    simp only [List.mem_cons, List.not_mem_nil, or_false] at hm
    have sys : ∀ y : Int, encF "system" y 0 0 0 0 0 0 0 = y → RT y "system" y 0 0 := fun y he =>
      .of (show decF "system" y = (0, 0, 0, 0, 0) from rfl) he rfl (okF_no (by decide)) (okF_no (by decide)) (okF_no (by decide)) (okF_no (by decide)) (okF_no (by decide)) (by decide) (by decide) (by decide) (by decide) (by decide)
    rcases hm with e | e | e | e | e <;> (subst e; exact sys _ (by decide +kernel))
theorem good3 {x : Int} (h0 : 0 ≤ x) (h1 : x < 4294967296) (h3 : x % 4 = 3) : Good x := by
  have hn := names_agree h0 (by omega) h3
  refine ⟨fun hb => ?_, fun hb a nm kd o th sv rd rs1 rs2 imm csr hs hr hd => ?_⟩
  · rw [← hn]
    unfold badW at hb
    rw [fd x (by decide : (0 : Int) ≤ 2 ^ 32), show x / 2 ^ 32 = 0 by (show x / 4294967296 = 0; omega)] at hb
    have e : decide (x < 0) = false := by simpa using h0
    rw [e] at hb
    cases hq : shapeOf x with
    | none => rfl
    | some a => rw [hq] at hb; cases hb
  · obtain ⟨c1, c2⟩ := rt_all h0 h1 hs hr rd rs1 rs2 imm csr hd
    refine ⟨?_, ?_, c1, c2⟩
    · rw [← hn, hs]
      show some (nameAt a) = some nm
      unfold nameAt
      rw [hr]; rfl
    · have := List.all_eq_true.mp name_all _ (lookup_mem hr)
      exact eq_of_beq this
theorem good_all {x : Int} (h0 : 0 ≤ x) (h1 : x < 4294967296 ∨ x % 4 ≠ 3) : Good x := by
  by_cases h3 : x % 4 = 3
  · exact good3 h0 (h1.resolve_right fun z => z h3) h3
  · exact good_not3 h0 h3
section
variable {rd one other hi : Int}
theorem good_words (a1 : 0 ≤ rd) (a2 : rd < 32) (b1 : 0 ≤ one) (b2 : one < 32) (c1 : 0 ≤ other) (c2 : other < 32) (d1 : 0 ≤ hi) (d2 : hi < 128) (i : Nat) (hi' : i < 32) (t : Int) (t0 : 0 ≤ t) (t1 : t < 8) : Good (wordAt (restOf rd one other hi) i t) := by
  unfold wordAt restOf
  exact good_all (by omega) (.inl (by omega))
theorem good_last1 (a1 : 0 ≤ rd) (a2 : rd < 32) (b1 : 0 ≤ one) (b2 : one < 32) (c1 : 0 ≤ other) (c2 : other < 32) (d1 : 0 ≤ hi) (d2 : hi < 128) (x : Int) (hx : x ∈ lastWords (restOf rd one other hi)) : Good x := by
  simp only [lastWords, List.mem_cons, List.not_mem_nil, or_false, restOf] at hx
  rcases hx with e | e | e | e | e | e | e | e
  · exact good_all (by omega) (.inl (by omega))
  · exact good_all (by omega) (.inl (by omega))
  · exact good_all (by omega) (.inl (by omega))
  · exact good_all (by omega) (.inl (by omega))
  · exact good_all (by omega) (.inl (by omega))
  · exact good_all (by omega) (.inl (by omega))
  · exact good_all (by omega) (.inl (by omega))
  · exact good_all (by omega) (.inr (by omega))
theorem good_last2 (a1 : 0 ≤ rd) (a2 : rd < 32) (b1 : 0 ≤ one) (b2 : one < 32) (c1 : 0 ≤ other) (c2 : other < 32) (d1 : 0 ≤ hi) (d2 : hi < 128) (x : Int) (hx : IsLow x) : Good (restOf rd one other hi + x) := by
  have hr : 0 ≤ x ∧ x < 128 := by
    rcases hx with h | h | h | ⟨j, h⟩ | ⟨j, h⟩ | h <;> omega
  unfold restOf
  exact good_all (by omega) (.inl (by omega))
end
noncomputable def addN (kvs : List (Str × Value)) (o : Option Str) : List (Str × Value) := match o with
  | none => kvs
  | some nm => stored kvs nm (.bool true)
theorem metFold_map (ws : List Int) (f : Int → Option Str) (h : ∀ x ∈ ws, nameOf x = f x) : ∀ kvs, ws.foldl metAfter kvs = (ws.map f).foldl addN kvs := by
  induction ws with
  | nil => intro kvs; rfl
  | cons x ws ih =>
    intro kvs
    rw [List.foldl_cons, List.map_cons, List.foldl_cons, ← ih fun y hy => h y (.tail _ hy)]
    congr 1
    show metAfter kvs x = addN kvs (f x)
    unfold metAfter addN
    rw [h x (.head _)]
    all_goals rfl
noncomputable def nmW (hi : Int) (z : Bool) (al : Option Str) (i : Nat) (t : Int) : Option Str := if i = 28 ∧ t = 0 then (match al with | some s => some s | none => nm0 28 0 hi z) else nm0 i t hi z
noncomputable def namesW (hi : Int) (z : Bool) (al : Option Str) : List (Option Str) := (List.range 32).flatMap fun i => ([0, 1, 2, 3, 4, 5, 6, 7] : List Int).map (nmW hi z al i)
noncomputable def cnt (hi : Int) (z : Bool) (al : Option Str) : Nat := ((namesW hi z al).foldl addN []).length
theorem cnt_fin : (cnt 0 true none = 42 ∧ cnt 0 false none = 42 ∧ cnt 1 true none = 40 ∧ cnt 1 false none = 40) ∧ (cnt 32 true none = 35 ∧ cnt 32 false none = 35 ∧ cnt 9 true none = 33 ∧ cnt 9 false none = 32) ∧ cnt 2 true none = 32 ∧ cnt 2 false none = 32 := by decide +kernel
theorem cnt_alone : (cnt 0 true (some "ecall") = 43 ∧ cnt 0 true (some "ebreak") = 43) ∧ cnt 2 true (some "sret") = 33 ∧ cnt 2 true (some "mret") = 33 ∧ cnt 2 true (some "wfi") = 33 := by decide +kernel
theorem nmW_other {hi : Int} {z : Bool} {al : Option Str} {i : Nat} {t : Int} (n0 : hi ≠ 0) (n1 : hi ≠ 1) (n2 : hi ≠ 9) (n3 : hi ≠ 32) : nmW hi z al i t = nmW 2 z al i t := by
  unfold nmW
  rw [nm0_other n0 n1 n2 n3, nm0_other n0 n1 n2 n3]
theorem cnt_other {hi : Int} {z : Bool} {al : Option Str} (n0 : hi ≠ 0) (n1 : hi ≠ 1) (n2 : hi ≠ 9) (n3 : hi ≠ 32) : cnt hi z al = cnt 2 z al := by
  unfold cnt namesW
  have e : (fun i : Nat => ([0, 1, 2, 3, 4, 5, 6, 7] : List Int).map (nmW hi z al i)) = fun i : Nat => ([0, 1, 2, 3, 4, 5, 6, 7] : List Int).map (nmW 2 z al i) := by
    funext i
    congr 1
    funext t
    exact nmW_other n0 n1 n2 n3
  rw [e]
section
variable {rd one other hi : Int}
theorem word_name (a1 : 0 ≤ rd) (a2 : rd < 32) (b1 : 0 ≤ one) (b2 : one < 32) (c1 : 0 ≤ other) (c2 : other < 32) (d1 : 0 ≤ hi) (d2 : hi < 128) (i : Nat) (hi' : i < 32) (t : Int) (t0 : 0 ≤ t) (t1 : t < 8) :
    nameOf (wordAt (restOf rd one other hi) i t) = nmW hi (rd == 0) (aloneT.lookup (restOf rd one other hi + 115)) i t := by
  have q : ∀ x, x = wordAt (restOf rd one other hi) i t → 0 ≤ x ∧ x % 4 = 3 ∧ x / 4 % 32 = (i : Int) ∧ x / 4096 % 8 = t ∧ x / 33554432 = hi ∧ x / 128 % 32 = rd ∧ x % 128 = 4 * (i : Int) + 3 := fun x hx => by
    unfold wordAt restOf at hx
    refine ⟨?_, ?_, ?_, ?_, ?_, ?_, ?_⟩ <;> omega
  obtain ⟨q0, q1, q2, q3, q4, q5, q6⟩ := q _ rfl
  unfold nmW
  by_cases h : i = 28 ∧ t = 0
  · rw [if_pos h]
    have e : wordAt (restOf rd one other hi) i t = restOf rd one other hi + 115 := by
      unfold wordAt; omega
    cases ha : aloneT.lookup (restOf rd one other hi + 115) with
    | none =>
      rw [nameOf_eq q0 q1 (e ▸ ha), q2, q3, q4, q5, h.1, h.2]
      rfl
    | some s =>
      rw [e]
      unfold nameOf
      rw [ha, if_pos (by simp)]
  · rw [if_neg h]
    have ha : aloneT.lookup (wordAt (restOf rd one other hi) i t) = none := by
      cases ha : aloneT.lookup (wordAt (restOf rd one other hi) i t) with
      | none => rfl
      | some s =>
        exfalso
        apply h
        rcases alone_cases ha with e | e | e | e | e <;> (rw [e] at q3 q6; omega)
    rw [nameOf_eq q0 q1 ha, q2, q3, q4, q5]
theorem count_eq (a1 : 0 ≤ rd) (a2 : rd < 32) (b1 : 0 ≤ one) (b2 : one < 32) (c1 : 0 ≤ other) (c2 : other < 32) (d1 : 0 ≤ hi) (d2 : hi < 128) :
    (metFold (allWords (restOf rd one other hi) [0, 1, 2, 3, 4, 5, 6, 7] 32)).length = cnt hi (rd == 0) (aloneT.lookup (restOf rd one other hi + 115)) := by
  have key : (allWords (restOf rd one other hi) [0, 1, 2, 3, 4, 5, 6, 7] 32).map nameOf = namesW hi (rd == 0) (aloneT.lookup (restOf rd one other hi + 115)) := by
    unfold allWords namesW
    rw [List.map_flatMap]
    have : ∀ (l : List Nat), (∀ i ∈ l, i < 32) → (l.flatMap fun i => (([0, 1, 2, 3, 4, 5, 6, 7] : List Int).map (wordAt (restOf rd one other hi) i)).map nameOf) = l.flatMap fun i => ([0, 1, 2, 3, 4, 5, 6, 7] : List Int).map (nmW hi (rd == 0) (aloneT.lookup (restOf rd one other hi + 115)) i) := by
      intro l hl
      induction l with
      | nil => rfl
      | cons i l ih =>
        rw [List.flatMap_cons, List.flatMap_cons, ih fun j hj => hl j (.tail _ hj)]
        congr 1
        rw [List.map_map]
        refine List.map_congr_left fun t ht => ?_
        have ht' : 0 ≤ t ∧ t < 8 := by
          simp only [List.mem_cons, List.not_mem_nil, or_false] at ht
          omega
        exact word_name a1 a2 b1 b2 c1 c2 d1 d2 i (hl i (.head _)) t ht'.1 ht'.2
    exact this _ fun i hi => List.mem_range.mp hi
  unfold metFold cnt
  rw [metFold_map _ nameOf (fun _ _ => rfl), key]
theorem count_ok (a1 : 0 ≤ rd) (a2 : rd < 32) (b1 : 0 ≤ one) (b2 : one < 32) (c1 : 0 ≤ other) (c2 : other < 32) (d1 : 0 ≤ hi) (d2 : hi < 128) :
    ((metFold (allWords (restOf rd one other hi) [0, 1, 2, 3, 4, 5, 6, 7] 32)).length : Int) = manyF hi rd + (if aloneL.any (· == restOf rd one other hi + 115) then 1 else 0) := by
  rw [count_eq a1 a2 b1 b2 c1 c2 d1 d2]
  obtain ⟨⟨k1, k2, k3, k4⟩, ⟨k5, k6, k7, k8⟩, k9, k10⟩ := cnt_fin
  obtain ⟨⟨l1, l2⟩, l3, l4, l5⟩ := cnt_alone
  cases ha : aloneT.lookup (restOf rd one other hi + 115) with
  | none =>
    have hn := alone_none ha
    have hf : aloneL.any (· == restOf rd one other hi + 115) = false := by
      generalize restOf rd one other hi + 115 = y at hn
      simp only [aloneL, List.any_cons, List.any_nil, Bool.or_false, Bool.or_eq_false_iff, beq_eq_false_iff_ne]
      omega
    rw [hf, if_neg (by decide)]
    unfold manyF
    by_cases n0 : hi = 0
    · subst n0
      cases hz : (rd == 0)
      · rw [k2]; rfl
      · rw [k1]; rfl
    by_cases n1 : hi = 1
    · subst n1
      cases hz : (rd == 0)
      · rw [k4]; rfl
      · rw [k3]; rfl
    by_cases n3 : hi = 32
    · subst n3
      cases hz : (rd == 0)
      · rw [k6]; rfl
      · rw [k5]; rfl
    by_cases n2 : hi = 9
    · subst n2
      cases hz : (rd == 0)
      · rw [k8]; rfl
      · rw [k7]; rfl
    rw [if_neg n0, if_neg n1, if_neg n3, if_neg n2, cnt_other n0 n1 n2 n3]
    cases hz : (rd == 0)
    · rw [k10]; rfl
    · rw [k9]; rfl
  | some s =>
    have hc := alone_cases ha
    have hr : ∀ v : Int, restOf rd one other hi + 115 = v → (v = 115 ∨ v = 1048691 → hi = 0 ∧ rd = 0) ∧ (v = 270532723 ∨ v = 273678451 → hi = 8 ∧ rd = 0) ∧ (v = 807403635 → hi = 24 ∧ rd = 0) := fun v hv => by
      unfold restOf at hv
      refine ⟨?_, ?_, ?_⟩
      · rintro (e | e) <;> omega
      · rintro (e | e) <;> omega
      · intro e; omega
    generalize restOf rd one other hi + 115 = y at ha hc hr
    obtain ⟨r1, r2, r3⟩ := hr y rfl
    rcases hc with rfl | rfl | rfl | rfl | rfl
    · obtain ⟨rfl, rfl⟩ := r1 (.inl rfl)
      cases ha
      rw [show cnt 0 ((0 : Int) == 0) (some "ecall") = 43 from l1]; rfl
    · obtain ⟨rfl, rfl⟩ := r1 (.inr rfl)
      cases ha
      rw [show cnt 0 ((0 : Int) == 0) (some "ebreak") = 43 from l2]; rfl
    · obtain ⟨rfl, rfl⟩ := r2 (.inl rfl)
      cases ha
      rw [cnt_other (by decide) (by decide) (by decide) (by decide), show cnt 2 ((0 : Int) == 0) (some "sret") = 33 from l3]; rfl
    · obtain ⟨rfl, rfl⟩ := r3 rfl
      cases ha
      rw [cnt_other (by decide) (by decide) (by decide) (by decide), show cnt 2 ((0 : Int) == 0) (some "mret") = 33 from l4]; rfl
    · obtain ⟨rfl, rfl⟩ := r2 (.inr rfl)
      cases ha
      rw [cnt_other (by decide) (by decide) (by decide) (by decide), show cnt 2 ((0 : Int) == 0) (some "wfi") = 33 from l5]; rfl
end
theorem plain : Plain := ⟨fun rd one other hi a1 a2 b1 b2 c1 c2 d1 d2 i hi' t t0 t1 => good_words a1 a2 b1 b2 c1 c2 d1 d2 i hi' t t0 t1, fun rd one other hi a1 a2 b1 b2 c1 c2 d1 d2 x hx => good_last1 a1 a2 b1 b2 c1 c2 d1 d2 x hx, fun rd one other hi a1 a2 b1 b2 c1 c2 d1 d2 x hx => good_last2 a1 a2 b1 b2 c1 c2 d1 d2 x hx, fun rd one other hi a1 a2 b1 b2 c1 c2 d1 d2 => count_ok a1 a2 b1 b2 c1 c2 d1 d2⟩
end Mine
end
open PySem PySem.W PyProof.Rows
theorem Mine.kE (P : Params) : Mine.as0 = (Mine.K0 P).map (·.1) := by kernel_rfl
theorem Mine.left' : LeftO Mine.pw Mine.qv Mine.looseL Mine.Xt0 (Hook.obs (kHook Mine.K0 Mine.as0 Mine.kE)) (Hook.val (kHook Mine.K0 Mine.as0 Mine.kE)) 103752 := Mine.left
theorem Mine.saidF : Mine.rwF.wellSaid = true := by
  unfold OpenLaw.wellSaid OpenRow.wellSaid OpenRow.partSaid looksOpen
  repeat' with_reducible refine look_both ?_ ?_
  all_goals first | k_qdec | decide +kernel | rfl
set_option maxRecDepth 100000 in
set_option maxHeartbeats 8000000 in
theorem PySem.Challenge.cw_pf0216_01_holds : PySem.Challenge.rw_pf0216_01.Holds := by
  w_on
  refine holds_law (Mine.rwF_eq ▸ Mine.saidF) fun said => ?_
  refine holds_open (q := Mine.qv) (loose := Mine.looseL) (Xt := Mine.Xt0) (XP := XL Mine.qv []) (Yf := Hook.obs (kHook Mine.K0 Mine.as0 Mine.kE)) (Ya := Hook.val (kHook Mine.K0 Mine.as0 Mine.kE)) (YP := Hook.says (kHook Mine.K0 Mine.as0 Mine.kE)) (N := 103752) Mine.left' (Hook.of (kHook Mine.K0 Mine.as0 Mine.kE)) (Hook.keeps (kHook Mine.K0 Mine.as0 Mine.kE)) (fun s e => xl_of s (Bool.and_eq_true_iff.mp e).1) XL.keeps (by rfl) (by rfl) (by rfl) (fun s e => recFacts_of (Bool.and_eq_true_iff.mp e).2) (by rfl) (by first | assumption | decide +kernel) (by decide +kernel) ⟨rfl, rfl, rfl, rfl, rfl, by decide +kernel⟩ ?hw ?hc
  case hw => w_witness2
  case hc =>
    w_strict (
      k_go0
      rename_i h1 tk1 F oc hoc N X0
      have KX := ‹(Mine.K0 _).In _›
      have TT := ‹Top _ _ _ _ _ _›
      have hL := ‹Heap.IsList _ _ _›
      have hI := ‹IntsAre _ _›
      have hlen := ‹¬ _ < (_ : Int)›
      refine wpAny_mono (Mine.l_main Mine.plain (below_caller _) KX TT ?hd ?hu F N hoc ?hm hL (by simpa using hI) ?hsz fun h tk m' n' F' N' => ?hq) (fun f s' hf => hf) fun _ _ z => z.elim
      case hd => decide
      case hu => decide
      case hm => rfl
      case hsz => have := Mine.IntsAre.len hI; rw [List.size_toArray]; omega
      case hq => (show GoodW _ _ _ _ _ (.ok (.ret (.bool _))) _); refine goodW_bool F' (by assumption) (raisesW_false ?_) ?_; (· wrow_none_raised); (· wrow_post))
