import PyProof.Rows.All
import Wide.All
import OpenK.AllK
import Wide.FinOn
import PySem.Challenge.RW_pq0229_01
open PySem PySem.W PyProof.Rows PySem.Calls
set_option Elab.async false
set_option maxRecDepth 100000
set_option linter.unusedVariables false
set_option maxHeartbeats 0
set_option genSizeOf false
set_option genInjectivity false
set_option compiler.extract_closed false
namespace Mine.Internal
section
def nd (k : String) (l : List Lean.Syntax) : Lean.Syntax := .node .none k.toName l.toArray
def tn (k : String) (l : List Lean.Syntax) : Lean.Syntax := nd ("Lean.Parser.Tactic." ++ k) l
def ta (s : String) : Lean.Syntax := .atom .none s
def im (s : String) : Lean.Syntax := .ident .none s.toRawSubstring s.toName []
def iv (l : List Lean.Syntax) : List Lean.Syntax := (l.foldr (fun x r => ta ";" :: x :: r) []).tail
def sq (l : List Lean.Syntax) : Lean.Syntax := tn "tacticSeq" [tn "tacticSeq1Indented" [nd "null" (iv l)]]
def wk (s : String) : Lean.Syntax := tn "fail" [ta "fail", nd "null" [Lean.Syntax.mkStrLit s]]
def ap (s : String) : Lean.Syntax := tn "apply" [ta "apply", im s]
def wt (n : String) (t : List Char) : Lean.Syntax := tn "focus" [ta "focus", sq (ap n :: t.map fun c => wk (String.ofList [c]))]
def wd (w : String) : Lean.Syntax :=
 let p := w.splitOn ":"
 let n := p.headD ""
 let t := p.getD 1 ""
 if t == "" then ap n else if n == "" then wk t else wt n t.toList
def fs (l : List String) : Lean.Syntax := tn "first" [ta "first", nd "null" (l.map fun w => nd "group" [ta "|", sq [wd w]])]
def po : List (String × List Lean.Syntax) → List (String × List Lean.Syntax)
 | (k, x) :: (j, y) :: r => (j, nd k x.reverse :: y) :: r
 | s => s
def ad (v : Lean.Syntax) : List (String × List Lean.Syntax) → List (String × List Lean.Syntax)
 | (k, x) :: r => (k, v :: x) :: r
 | s => s
def sw (a : List Lean.Syntax) (st : List (String × List Lean.Syntax)) (w : String) : List (String × List Lean.Syntax) :=
 let c := w.toList.headD 'x'
 let d := String.ofList w.toList.tail
 if c == '{' then ("Lean.Parser." ++ d, []) :: st
 else if c == '&' then (d, []) :: st
 else if c == '}' then po st
 else if c == '<' then ("null", []) :: ("Lean.Parser.Tactic.tacticSeq1Indented", []) :: ("Lean.Parser.Tactic.tacticSeq", []) :: st
 else if c == '>' then po (po (po st))
 else ad (if c == '$' then a.getD d.toNat! .missing else if c == '@' then im d else if c == '~' then wk d else ta w) st
def tb (k : String) : List String := (((("#1 F :E :S :X zgc :T :B zmO :J :O zqH zqG zqT zqe zp3:?r zrm:ar?r zrl zrC znV zpD zrb zoJ zqC zrq:r zjH:r znM:r#E G gEv zmL:ammm zqS:amm zoF zmz zqw:?r zrc zkN:?rr zqx:?r zry:amvr zkM zrf zqv zkP znt zre:?r zrz zp0 zrd#S G gEs zoH zqy:amv zby:?r#X G gEx1 zob:a?r zhS:?r zrW zp8 zmg:?r zla:?r zqR#T G gSt zfP:amuu zpU:amu#B G gBv zrh:?r zrg zqE zp1:?r zrB#J G gSubJ zpV:?i zjU:rrD?i zda:mDDr?i#O G gOp2 zru zrs zrv zrt zqV zqU#s X {Tactic.withReducible with_reducible < {Tactic.tacticRepeat_ repeat < ~1 > } >#g X {Tactic.withReducible with_reducible < {Tactic.tacticRepeat_ repeat < ~h > } >#h F :1 zai#m F :M :N#M R List.mem_cons_self mz1 mz2 mz3 mz4 mz5 mz6 mz7 mzt List.mem_cons_of_mem List.mem_append_right :a#N R List.mem_cons_self List.mem_cons_of_mem List.mem_append_right :a#u F :U :V#U R Up.head UpN.head uz1 uz2 uz3 uz4 uz5 uz6 uz7 nz1 nz2 nz3 nz4 nz5 nz6 nz7 uzt nzt Up.tail UpN.tail Up.app :a#V R Up.head UpN.head Up.tail UpN.tail Up.app :a#p R zgn.head pz1 pz2 pz3 pz4 pz5 pz6 pz7 pzt zgn.tail#e R Le.refl Le.nil lz0 lz1 lz2 lz3 lz4 lz5 lz6 lz7 Le.pick:p Le.skip Le.app Le.turn Le.drop#v R Pv.nil Pv.str Pv.int Pv.name:mm Pv.tup :R Pv.none Pv.bool#d F dp1:ar dp0:a dp2:ar dp3:ar dp4:ar dp5:ar :o#a X {Tactic.assumption assumption#R F rT0 :x#x X {Tactic.exact exact @rfl#r X {Tactic.withUnfoldingAll with_unfolding_all < ~f >#f F rT0 rF0 rP0 rN0 :l#l X {Tactic.tacticRfl rfl#D X {Tactic.withUnfoldingAll with_unfolding_all < {Tactic.decide decide {Tactic.optConfig &null } } } >#i X {Tactic.paren ( < {Tactic.intro intro &null {Term.hole _ } {Term.hole _ } } } ; ~r > )#? X {Tactic.rotateLeft rotate_left &null }#o F :n :y :z#n X {Tactic.withReducible with_reducible < ~k >#k F :a oA:aR oB:aR oC:aR oE:aR oF:aR oG:Ra Nat.le_of_ble_eq_true:R#y X {Tactic.lia lia {Tactic.optConfig &null } }#z X {Tactic.omega omega {Tactic.optConfig &null } }#sh X {Tactic.first first &null &group | < {Tactic.refine refine {Term.typeAscription {Term.hygienicLParen ( &hygieneInfo @ } } {Term.syntheticHole ? _ } : &null $1 } ) } } > } &group | < {Tactic.fail fail &null } } > } }#ca X {Tactic.first first &null &group | < {Tactic.exact exact {Term.app @xB &null $1 } } } > } &group | < {Tactic.exact exact {Term.app @xN &null $1 } } } > } &group | < {Tactic.paren ( < {Tactic.tacticHave__ have {Term.letConfig &null } } {Term.letDecl {Term.letIdDecl {Term.letId @q } &null } &null } := {Term.app @VR.isRef &null $1 } } } } } ; {Tactic.subst subst &null @q } } > ) } > } &group | < {Tactic.paren ( < {Tactic.tacticHave__ have {Term.letConfig &null } } {Term.letDecl {Term.letIdDecl {Term.letId @q } &null } &null } := {Term.app @VR.isBi &null $1 } } } } } ; {Tactic.subst subst &null @q } } > ) } > } &group | < {Tactic.paren ( < {Tactic.tacticHave__ have {Term.letConfig &null } } {Term.letDecl {Term.letIdDecl {Term.letId @q } &null } &null } := {Term.app @VRs.isNil &null $1 } } } } } ; {Tactic.subst subst &null @q } } > ) } > } &group | < {Tactic.subst subst &null $1 } } > } &group | < {Tactic.fail fail &null } } > } }#W0 X {Tactic.first first &null &group | < {Tactic.withReducible with_reducible < {Tactic.refine refine {Term.subst {Term.paren {Term.hygienicLParen ( &hygieneInfo @ } } {Term.app @Eq.symm &null {Term.paren {Term.hygienicLParen ( &hygieneInfo @ } } {Term.app $1 &null {Term.ellipsis .. } } } ) } } } ) } ▸ &null {Term.syntheticHole ? _ } } } } > } > } &group | < {Tactic.rewriteSeq rewrite {Tactic.optConfig &null } } {Tactic.rwRuleSeq [ &null $0 } ] } &null } } > } }#W1 X {Tactic.first first &null &group | < {Tactic.withReducible with_reducible < {Tactic.refine refine {Term.subst {Term.paren {Term.hygienicLParen ( &hygieneInfo @ } } {Term.app $1 &null {Term.ellipsis .. } } } ) } ▸ &null {Term.syntheticHole ? _ } } } } > } > } &group | < {Tactic.rewriteSeq rewrite {Tactic.optConfig &null } } {Tactic.rwRuleSeq [ &null $0 } ] } &null } } > } }#W2 X {Tactic.paren ( < $0 ; $1 > )#W3 X {Tactic.tacticTry_ try < {Tactic.withReducible with_reducible < {Tactic.tacticRfl rfl } > } >#st F :s#go F :g#mem F :m#up F :u#pk F :p#le F :e#R0 {Tactic.focus focus < {Tactic.withReducible with_reducible < {Tactic.tacticRepeat_ repeat < $0 > } ; {Tactic.done done } > } >#G0 {Tactic.paren ( < $0 ; $1 > )#gEv {Tactic.refine refine {Term.typeAscription {Term.hygienicLParen ( &hygieneInfo @ } } {Term.syntheticHole ? _ } : &null {Term.app @Ev &null {Term.hole _ } {Term.hole _ } {Term.hole _ } {Term.hole _ } {Term.hole _ } {Term.hole _ } {Term.hole _ } } } } ) }#gEs {Tactic.refine refine {Term.typeAscription {Term.hygienicLParen ( &hygieneInfo @ } } {Term.syntheticHole ? _ } : &null {Term.app @Es &null {Term.hole _ } {Term.hole _ } {Term.hole _ } {Term.hole _ } {Term.hole _ } {Term.hole _ } {Term.hole _ } {Term.hole _ } } } } ) }#gEx1 {Tactic.refine refine {Term.typeAscription {Term.hygienicLParen ( &hygieneInfo @ } } {Term.syntheticHole ? _ } : &null {Term.app @Ex1 &null {Term.hole _ } {Term.hole _ } {Term.hole _ } {Term.hole _ } {Term.hole _ } {Term.hole _ } {Term.hole _ } } } } ) }#gSt {Tactic.refine refine {Term.typeAscription {Term.hygienicLParen ( &hygieneInfo @ } } {Term.syntheticHole ? _ } : &null {Term.app @St &null {Term.hole _ } {Term.hole _ } {Term.hole _ } {Term.hole _ } {Term.hole _ } {Term.hole _ } {Term.hole _ } {Term.hole _ } } } } ) }#gBv {Tactic.refine refine {Term.typeAscription {Term.hygienicLParen ( &hygieneInfo @ } } {Term.syntheticHole ? _ } : &null {Term.app @Bv &null {Term.hole _ } {Term.hole _ } {Term.hole _ } {Term.hole _ } {Term.hole _ } {Term.hole _ } {Term.hole _ } } } } ) }#gSubJ {Tactic.refine refine {Term.typeAscription {Term.hygienicLParen ( &hygieneInfo @ } } {Term.syntheticHole ? _ } : &null {Term.app @zjw &null {Term.hole _ } {Term.hole _ } {Term.hole _ } {Term.hole _ } {Term.hole _ } {Term.hole _ } {Term.hole _ } {Term.hole _ } {Term.hole _ } } } } ) }#gOp2 {Tactic.refine refine {Term.typeAscription {Term.hygienicLParen ( &hygieneInfo @ } } {Term.syntheticHole ? _ } : &null {Term.app @Op2 &null {Term.hole _ } {Term.hole _ } {Term.hole _ } {Term.hole _ } {Term.hole _ } {Term.hole _ } {Term.hole _ } {Term.hole _ } } } } ) }".splitOn ("#" ++ k ++ " ")).getD 1 "").splitOn "#").headD "").splitOn " "
def bx (a : List Lean.Syntax) (l : List String) : Lean.Syntax := ((po (l.foldl (sw a) [("null", [])])).headD ("", [])).2.headD .missing
def sx (a : List Lean.Syntax) (k : String) : Lean.MacroM Lean.Syntax :=
 let l := tb k
 let r := l.tail
 let c := l.headD ""
 if c == "F" then return fs r
 else if c == "R" then return bx [fs r] (tb "R0")
 else if c == "G" then return bx [bx [] (tb (r.headD "")), fs r.tail] (tb "G0")
 else if c == "X" then return bx a r
 else Lean.Macro.throwUnsupported
def rr : List Lean.Syntax → Lean.MacroM Lean.Syntax
 | [] => sx [] "W3"
 | r :: l => do sx [← sx [r, r[1]] (if r[0].getNumArgs == 0 then "W0" else "W1"), ← rr l] "W2"
local macro_rules | `(tactic| walk_at $s:str) => sx [] s.getString
local macro_rules | `(tactic| fail $s:str) => sx [] s.getString
local macro_rules | `(tactic| show $s:term) => sx [s, s] "sh"
local macro_rules | `(tactic| cases $s:ident) => sx [s, s] "ca"
local macro_rules | `(tactic| rwa $s:rwRuleSeq) => rr s.raw[1].getSepArgs.toList
theorem rT0 : true = true := rfl
theorem rF0 : false = false := rfl
theorem rN0 : (none : Option Nat) = none := rfl
theorem rP0 : (pure false : Sem Bool) = pure false := rfl
theorem iAA {P0 P1 R : Prop} (p0 : P0) (p1 : P1) (r : R) : P0 ∧ P1 ∧ R := ⟨p0, p1, r⟩
theorem iEA {a0 : Type} {P1 R : a0 → Prop} (x0 : a0) (p1 : P1 x0) (r : R x0) : ∃ x0, P1 x0 ∧ R x0 := ⟨x0, p1, r⟩
theorem iEE {a0 a1 : Type} {R : a0 → a1 → Prop} (x0 : a0) (x1 : a1) (r : R x0 x1) : ∃ x0 x1, R x0 x1 := ⟨x0, x1, r⟩
theorem zjf {P0 P1 P2 R : Prop} (p0 : P0) (p1 : P1) (p2 : P2) (r : R) : P0 ∧ P1 ∧ P2 ∧ R := ⟨p0, p1, p2, r⟩
theorem znS {a0 : Type} {P0 : Prop} {P2 R : a0 → Prop} (p0 : P0) (x0 : a0) (p2 : P2 x0) (r : R x0) : P0 ∧ (∃ x0, P2 x0 ∧ R x0) := ⟨p0, x0, p2, r⟩
theorem ze8 {a0 : Type} {P1 P2 R : a0 → Prop} (x0 : a0) (p1 : P1 x0) (p2 : P2 x0) (r : R x0) : ∃ x0, P1 x0 ∧ P2 x0 ∧ R x0 := ⟨x0, p1, p2, r⟩
theorem zk4 {a0 a1 : Type} {P2 R : a0 → a1 → Prop} (x0 : a0) (x1 : a1) (p2 : P2 x0 x1) (r : R x0 x1) : ∃ x0 x1, P2 x0 x1 ∧ R x0 x1 := ⟨x0, x1, p2, r⟩
theorem zqu {a0 a1 a2 : Type} {R : a0 → a1 → a2 → Prop} (x0 : a0) (x1 : a1) (x2 : a2) (r : R x0 x1 x2) : ∃ x0 x1 x2, R x0 x1 x2 := ⟨x0, x1, x2, r⟩
theorem zje {P0 P1 P2 P3 R : Prop} (p0 : P0) (p1 : P1) (p2 : P2) (p3 : P3) (r : R) : P0 ∧ P1 ∧ P2 ∧ P3 ∧ R := ⟨p0, p1, p2, p3, r⟩
theorem zfh {a0 : Type} {P1 P2 P3 R : a0 → Prop} (x0 : a0) (p1 : P1 x0) (p2 : P2 x0) (p3 : P3 x0) (r : R x0) : ∃ x0, P1 x0 ∧ P2 x0 ∧ P3 x0 ∧ R x0 := ⟨x0, p1, p2, p3, r⟩
theorem zkD {a0 a1 : Type} {P2 P3 R : a0 → a1 → Prop} (x0 : a0) (x1 : a1) (p2 : P2 x0 x1) (p3 : P3 x0 x1) (r : R x0 x1) : ∃ x0 x1, P2 x0 x1 ∧ P3 x0 x1 ∧ R x0 x1 := ⟨x0, x1, p2, p3, r⟩
theorem zoy {a0 a1 a2 : Type} {P3 R : a0 → a1 → a2 → Prop} (x0 : a0) (x1 : a1) (x2 : a2) (p3 : P3 x0 x1 x2) (r : R x0 x1 x2) : ∃ x0 x1 x2, P3 x0 x1 x2 ∧ R x0 x1 x2 := ⟨x0, x1, x2, p3, r⟩
theorem zmu {a0 : Type} {P0 : Prop} {P2 P3 P4 R : a0 → Prop} (p0 : P0) (x0 : a0) (p2 : P2 x0) (p3 : P3 x0) (p4 : P4 x0) (r : R x0) : P0 ∧ (∃ x0, P2 x0 ∧ P3 x0 ∧ P4 x0 ∧ R x0) := ⟨p0, x0, p2, p3, p4, r⟩
theorem zmt {a0 a1 : Type} {P1 P2 : a0 → Prop} {P4 R : a0 → a1 → Prop} (x0 : a0) (p1 : P1 x0) (p2 : P2 x0) (x1 : a1) (p4 : P4 x0 x1) (r : R x0 x1) : ∃ x0, P1 x0 ∧ P2 x0 ∧ (∃ x1, P4 x0 x1 ∧ R x0 x1) := ⟨x0, p1, p2, x1, p4, r⟩
theorem zd0 {a0 a1 : Type} {P2 P3 P4 R : a0 → a1 → Prop} (x0 : a0) (x1 : a1) (p2 : P2 x0 x1) (p3 : P3 x0 x1) (p4 : P4 x0 x1) (r : R x0 x1) : ∃ x0 x1, P2 x0 x1 ∧ P3 x0 x1 ∧ P4 x0 x1 ∧ R x0 x1 := ⟨x0, x1, p2, p3, p4, r⟩
theorem zms {a0 a1 a2 a3 : Type} {P4 R : a0 → a1 → a2 → a3 → Prop} (x0 : a0) (x1 : a1) (x2 : a2) (x3 : a3) (p4 : P4 x0 x1 x2 x3) (r : R x0 x1 x2 x3) : ∃ x0 x1 x2 x3, P4 x0 x1 x2 x3 ∧ R x0 x1 x2 x3 := ⟨x0, x1, x2, x3, p4, r⟩
theorem zhz {a0 a1 a2 : Type} {P3 P4 P5 R : a0 → a1 → a2 → Prop} (x0 : a0) (x1 : a1) (x2 : a2) (p3 : P3 x0 x1 x2) (p4 : P4 x0 x1 x2) (p5 : P5 x0 x1 x2) (r : R x0 x1 x2) : ∃ x0 x1 x2, P3 x0 x1 x2 ∧ P4 x0 x1 x2 ∧ P5 x0 x1 x2 ∧ R x0 x1 x2 := ⟨x0, x1, x2, p3, p4, p5, r⟩
theorem zcI {a0 a1 a2 : Type} {P3 P4 P5 P6 R : a0 → a1 → a2 → Prop} (x0 : a0) (x1 : a1) (x2 : a2) (p3 : P3 x0 x1 x2) (p4 : P4 x0 x1 x2) (p5 : P5 x0 x1 x2) (p6 : P6 x0 x1 x2) (r : R x0 x1 x2) : ∃ x0 x1 x2, P3 x0 x1 x2 ∧ P4 x0 x1 x2 ∧ P5 x0 x1 x2 ∧ P6 x0 x1 x2 ∧ R x0 x1 x2 := ⟨x0, x1, x2, p3, p4, p5, p6, r⟩
theorem zci {a0 a1 a2 a3 : Type} {P4 P5 P6 R : a0 → a1 → a2 → a3 → Prop} (x0 : a0) (x1 : a1) (x2 : a2) (x3 : a3) (p4 : P4 x0 x1 x2 x3) (p5 : P5 x0 x1 x2 x3) (p6 : P6 x0 x1 x2 x3) (r : R x0 x1 x2 x3) : ∃ x0 x1 x2 x3, P4 x0 x1 x2 x3 ∧ P5 x0 x1 x2 x3 ∧ P6 x0 x1 x2 x3 ∧ R x0 x1 x2 x3 := ⟨x0, x1, x2, x3, p4, p5, p6, r⟩
theorem zdP {a0 a1 a2 a3 : Type} {P4 P5 P6 P7 P8 R : a0 → a1 → a2 → a3 → Prop} (x0 : a0) (x1 : a1) (x2 : a2) (x3 : a3) (p4 : P4 x0 x1 x2 x3) (p5 : P5 x0 x1 x2 x3) (p6 : P6 x0 x1 x2 x3) (p7 : P7 x0 x1 x2 x3) (p8 : P8 x0 x1 x2 x3) (r : R x0 x1 x2 x3) : ∃ x0 x1 x2 x3, P4 x0 x1 x2 x3 ∧ P5 x0 x1 x2 x3 ∧ P6 x0 x1 x2 x3 ∧ P7 x0 x1 x2 x3 ∧ P8 x0 x1 x2 x3 ∧ R x0 x1 x2 x3 := ⟨x0, x1, x2, x3, p4, p5, p6, p7, p8, r⟩
theorem xA {P0 R : Prop} {G : Prop} (h : P0 ∧ R) (k : P0 → R → G) : G := k h.1 h.2
theorem xE {a0 : Type} {R : a0 → Prop} {G : Prop} (h : ∃ x0, R x0) (k : ∀ x0, R x0 → G) : G := h.elim fun x0 h0 => k x0 h0
theorem xAA {P0 P1 R : Prop} {G : Prop} (h : P0 ∧ P1 ∧ R) (k : P0 → P1 → R → G) : G := k h.1 h.2.1 h.2.2
theorem xEA {a0 : Type} {P1 R : a0 → Prop} {G : Prop} (h : ∃ x0, P1 x0 ∧ R x0) (k : ∀ x0, P1 x0 → R x0 → G) : G := h.elim fun x0 h0 => k x0 h0.1 h0.2
theorem xEE {a0 a1 : Type} {R : a0 → a1 → Prop} {G : Prop} (h : ∃ x0 x1, R x0 x1) (k : ∀ x0 x1, R x0 x1 → G) : G := h.elim fun x0 h0 => h0.elim fun x1 h1 => k x0 x1 h1
theorem zmJ {P0 P1 P2 R : Prop} {G : Prop} (h : P0 ∧ P1 ∧ P2 ∧ R) (k : P0 → P1 → P2 → R → G) : G := k h.1 h.2.1 h.2.2.1 h.2.2.2
theorem zn8 {a0 : Type} {P0 : Prop} {P2 R : a0 → Prop} {G : Prop} (h : P0 ∧ (∃ x0, P2 x0 ∧ R x0)) (k : P0 → ∀ x0, P2 x0 → R x0 → G) : G := h.2.elim fun x0 h0 => k h.1 x0 h0.1 h0.2
theorem zdx {a0 : Type} {P1 P2 R : a0 → Prop} {G : Prop} (h : ∃ x0, P1 x0 ∧ P2 x0 ∧ R x0) (k : ∀ x0, P1 x0 → P2 x0 → R x0 → G) : G := h.elim fun x0 h0 => k x0 h0.1 h0.2.1 h0.2.2
theorem zbE {a0 a1 : Type} {P2 R : a0 → a1 → Prop} {G : Prop} (h : ∃ x0 x1, P2 x0 x1 ∧ R x0 x1) (k : ∀ x0 x1, P2 x0 x1 → R x0 x1 → G) : G := h.elim fun x0 h0 => h0.elim fun x1 h1 => k x0 x1 h1.1 h1.2
theorem zn6 {a0 a1 a2 : Type} {R : a0 → a1 → a2 → Prop} {G : Prop} (h : ∃ x0 x1 x2, R x0 x1 x2) (k : ∀ x0 x1 x2, R x0 x1 x2 → G) : G := h.elim fun x0 h0 => h0.elim fun x1 h1 => h1.elim fun x2 h2 => k x0 x1 x2 h2
theorem ziH {P0 P1 P2 P3 R : Prop} {G : Prop} (h : P0 ∧ P1 ∧ P2 ∧ P3 ∧ R) (k : P0 → P1 → P2 → P3 → R → G) : G := k h.1 h.2.1 h.2.2.1 h.2.2.2.1 h.2.2.2.2
theorem zld {a0 a1 : Type} {P0 : Prop} {P3 R : a0 → a1 → Prop} {G : Prop} (h : P0 ∧ (∃ x0 x1, P3 x0 x1 ∧ R x0 x1)) (k : P0 → ∀ x0 x1, P3 x0 x1 → R x0 x1 → G) : G := h.2.elim fun x0 h0 => h0.elim fun x1 h1 => k h.1 x0 x1 h1.1 h1.2
theorem ziF {a0 : Type} {P1 P2 P3 R : a0 → Prop} {G : Prop} (h : ∃ x0, P1 x0 ∧ P2 x0 ∧ P3 x0 ∧ R x0) (k : ∀ x0, P1 x0 → P2 x0 → P3 x0 → R x0 → G) : G := h.elim fun x0 h0 => k x0 h0.1 h0.2.1 h0.2.2.1 h0.2.2.2
theorem zbS {a0 a1 : Type} {P2 P3 R : a0 → a1 → Prop} {G : Prop} (h : ∃ x0 x1, P2 x0 x1 ∧ P3 x0 x1 ∧ R x0 x1) (k : ∀ x0 x1, P2 x0 x1 → P3 x0 x1 → R x0 x1 → G) : G := h.elim fun x0 h0 => h0.elim fun x1 h1 => k x0 x1 h1.1 h1.2.1 h1.2.2
theorem zn5 {a0 a1 a2 : Type} {P3 R : a0 → a1 → a2 → Prop} {G : Prop} (h : ∃ x0 x1 x2, P3 x0 x1 x2 ∧ R x0 x1 x2) (k : ∀ x0 x1 x2, P3 x0 x1 x2 → R x0 x1 x2 → G) : G := h.elim fun x0 h0 => h0.elim fun x1 h1 => h1.elim fun x2 h2 => k x0 x1 x2 h2.1 h2.2
theorem zeo {a0 a1 : Type} {P0 : Prop} {P3 P4 R : a0 → a1 → Prop} {G : Prop} (h : P0 ∧ (∃ x0 x1, P3 x0 x1 ∧ P4 x0 x1 ∧ R x0 x1)) (k : P0 → ∀ x0 x1, P3 x0 x1 → P4 x0 x1 → R x0 x1 → G) : G := h.2.elim fun x0 h0 => h0.elim fun x1 h1 => k h.1 x0 x1 h1.1 h1.2.1 h1.2.2
theorem zn7 {a0 : Type} {P1 P2 P3 P4 R : a0 → Prop} {G : Prop} (h : ∃ x0, P1 x0 ∧ P2 x0 ∧ P3 x0 ∧ P4 x0 ∧ R x0) (k : ∀ x0, P1 x0 → P2 x0 → P3 x0 → P4 x0 → R x0 → G) : G := h.elim fun x0 h0 => k x0 h0.1 h0.2.1 h0.2.2.1 h0.2.2.2.1 h0.2.2.2.2
theorem zhT {a0 a1 : Type} {P2 P3 P4 R : a0 → a1 → Prop} {G : Prop} (h : ∃ x0 x1, P2 x0 x1 ∧ P3 x0 x1 ∧ P4 x0 x1 ∧ R x0 x1) (k : ∀ x0 x1, P2 x0 x1 → P3 x0 x1 → P4 x0 x1 → R x0 x1 → G) : G := h.elim fun x0 h0 => h0.elim fun x1 h1 => k x0 x1 h1.1 h1.2.1 h1.2.2.1 h1.2.2.2
theorem zmh {a0 a1 a2 : Type} {P3 P4 R : a0 → a1 → a2 → Prop} {G : Prop} (h : ∃ x0 x1 x2, P3 x0 x1 x2 ∧ P4 x0 x1 x2 ∧ R x0 x1 x2) (k : ∀ x0 x1 x2, P3 x0 x1 x2 → P4 x0 x1 x2 → R x0 x1 x2 → G) : G := h.elim fun x0 h0 => h0.elim fun x1 h1 => h1.elim fun x2 h2 => k x0 x1 x2 h2.1 h2.2.1 h2.2.2
theorem zn4 {a0 a1 a2 a3 : Type} {P4 R : a0 → a1 → a2 → a3 → Prop} {G : Prop} (h : ∃ x0 x1 x2 x3, P4 x0 x1 x2 x3 ∧ R x0 x1 x2 x3) (k : ∀ x0 x1 x2 x3, P4 x0 x1 x2 x3 → R x0 x1 x2 x3 → G) : G := h.elim fun x0 h0 => h0.elim fun x1 h1 => h1.elim fun x2 h2 => h2.elim fun x3 h3 => k x0 x1 x2 x3 h3.1 h3.2
theorem zep {P0 P1 P2 P3 P4 P5 R : Prop} {G : Prop} (h : P0 ∧ P1 ∧ P2 ∧ P3 ∧ P4 ∧ P5 ∧ R) (k : P0 → P1 → P2 → P3 → P4 → P5 → R → G) : G := k h.1 h.2.1 h.2.2.1 h.2.2.2.1 h.2.2.2.2.1 h.2.2.2.2.2.1 h.2.2.2.2.2.2
theorem zjA {a0 a1 : Type} {P0 : Prop} {P3 P4 P5 R : a0 → a1 → Prop} {G : Prop} (h : P0 ∧ (∃ x0 x1, P3 x0 x1 ∧ P4 x0 x1 ∧ P5 x0 x1 ∧ R x0 x1)) (k : P0 → ∀ x0 x1, P3 x0 x1 → P4 x0 x1 → P5 x0 x1 → R x0 x1 → G) : G := h.2.elim fun x0 h0 => h0.elim fun x1 h1 => k h.1 x0 x1 h1.1 h1.2.1 h1.2.2.1 h1.2.2.2
theorem zmI {a0 : Type} {P1 P2 P3 P4 P5 R : a0 → Prop} {G : Prop} (h : ∃ x0, P1 x0 ∧ P2 x0 ∧ P3 x0 ∧ P4 x0 ∧ P5 x0 ∧ R x0) (k : ∀ x0, P1 x0 → P2 x0 → P3 x0 → P4 x0 → P5 x0 → R x0 → G) : G := h.elim fun x0 h0 => k x0 h0.1 h0.2.1 h0.2.2.1 h0.2.2.2.1 h0.2.2.2.2.1 h0.2.2.2.2.2
theorem zct {a0 a1 : Type} {P2 P3 P4 P5 R : a0 → a1 → Prop} {G : Prop} (h : ∃ x0 x1, P2 x0 x1 ∧ P3 x0 x1 ∧ P4 x0 x1 ∧ P5 x0 x1 ∧ R x0 x1) (k : ∀ x0 x1, P2 x0 x1 → P3 x0 x1 → P4 x0 x1 → P5 x0 x1 → R x0 x1 → G) : G := h.elim fun x0 h0 => h0.elim fun x1 h1 => k x0 x1 h1.1 h1.2.1 h1.2.2.1 h1.2.2.2.1 h1.2.2.2.2
theorem zcs {a0 a1 a2 : Type} {P3 P4 P5 R : a0 → a1 → a2 → Prop} {G : Prop} (h : ∃ x0 x1 x2, P3 x0 x1 x2 ∧ P4 x0 x1 x2 ∧ P5 x0 x1 x2 ∧ R x0 x1 x2) (k : ∀ x0 x1 x2, P3 x0 x1 x2 → P4 x0 x1 x2 → P5 x0 x1 x2 → R x0 x1 x2 → G) : G := h.elim fun x0 h0 => h0.elim fun x1 h1 => h1.elim fun x2 h2 => k x0 x1 x2 h2.1 h2.2.1 h2.2.2.1 h2.2.2.2
theorem zmH {a0 a1 a2 a3 a4 a5 : Type} {R : a0 → a1 → a2 → a3 → a4 → a5 → Prop} {G : Prop} (h : ∃ x0 x1 x2 x3 x4 x5, R x0 x1 x2 x3 x4 x5) (k : ∀ x0 x1 x2 x3 x4 x5, R x0 x1 x2 x3 x4 x5 → G) : G := h.elim fun x0 h0 => h0.elim fun x1 h1 => h1.elim fun x2 h2 => h2.elim fun x3 h3 => h3.elim fun x4 h4 => h4.elim fun x5 h5 => k x0 x1 x2 x3 x4 x5 h5
theorem zlc {a0 a1 : Type} {P0 : Prop} {P3 P4 P5 P6 R : a0 → a1 → Prop} {G : Prop} (h : P0 ∧ (∃ x0 x1, P3 x0 x1 ∧ P4 x0 x1 ∧ P5 x0 x1 ∧ P6 x0 x1 ∧ R x0 x1)) (k : P0 → ∀ x0 x1, P3 x0 x1 → P4 x0 x1 → P5 x0 x1 → P6 x0 x1 → R x0 x1 → G) : G := h.2.elim fun x0 h0 => h0.elim fun x1 h1 => k h.1 x0 x1 h1.1 h1.2.1 h1.2.2.1 h1.2.2.2.1 h1.2.2.2.2
theorem zfN {a0 a1 a2 : Type} {P3 P4 P5 P6 R : a0 → a1 → a2 → Prop} {G : Prop} (h : ∃ x0 x1 x2, P3 x0 x1 x2 ∧ P4 x0 x1 x2 ∧ P5 x0 x1 x2 ∧ P6 x0 x1 x2 ∧ R x0 x1 x2) (k : ∀ x0 x1 x2, P3 x0 x1 x2 → P4 x0 x1 x2 → P5 x0 x1 x2 → P6 x0 x1 x2 → R x0 x1 x2 → G) : G := h.elim fun x0 h0 => h0.elim fun x1 h1 => h1.elim fun x2 h2 => k x0 x1 x2 h2.1 h2.2.1 h2.2.2.1 h2.2.2.2.1 h2.2.2.2.2
theorem zfM {a0 a1 a2 a3 : Type} {P4 P5 P6 R : a0 → a1 → a2 → a3 → Prop} {G : Prop} (h : ∃ x0 x1 x2 x3, P4 x0 x1 x2 x3 ∧ P5 x0 x1 x2 x3 ∧ P6 x0 x1 x2 x3 ∧ R x0 x1 x2 x3) (k : ∀ x0 x1 x2 x3, P4 x0 x1 x2 x3 → P5 x0 x1 x2 x3 → P6 x0 x1 x2 x3 → R x0 x1 x2 x3 → G) : G := h.elim fun x0 h0 => h0.elim fun x1 h1 => h1.elim fun x2 h2 => h2.elim fun x3 h3 => k x0 x1 x2 x3 h3.1 h3.2.1 h3.2.2.1 h3.2.2.2
theorem zlb {a0 a1 a2 a3 a4 a5 : Type} {P6 R : a0 → a1 → a2 → a3 → a4 → a5 → Prop} {G : Prop} (h : ∃ x0 x1 x2 x3 x4 x5, P6 x0 x1 x2 x3 x4 x5 ∧ R x0 x1 x2 x3 x4 x5) (k : ∀ x0 x1 x2 x3 x4 x5, P6 x0 x1 x2 x3 x4 x5 → R x0 x1 x2 x3 x4 x5 → G) : G := h.elim fun x0 h0 => h0.elim fun x1 h1 => h1.elim fun x2 h2 => h2.elim fun x3 h3 => h3.elim fun x4 h4 => h4.elim fun x5 h5 => k x0 x1 x2 x3 x4 x5 h5.1 h5.2
theorem zjB {a0 a1 a2 : Type} {P0 P1 : Prop} {P5 P6 P7 R : a0 → a1 → a2 → Prop} {G : Prop} (h : P0 ∧ P1 ∧ (∃ x0 x1 x2, P5 x0 x1 x2 ∧ P6 x0 x1 x2 ∧ P7 x0 x1 x2 ∧ R x0 x1 x2)) (k : P0 → P1 → ∀ x0 x1 x2, P5 x0 x1 x2 → P6 x0 x1 x2 → P7 x0 x1 x2 → R x0 x1 x2 → G) : G := h.2.2.elim fun x0 h0 => h0.elim fun x1 h1 => h1.elim fun x2 h2 => k h.1 h.2.1 x0 x1 x2 h2.1 h2.2.1 h2.2.2.1 h2.2.2.2
theorem zjz {a0 a1 a2 a3 : Type} {P0 : Prop} {P3 P4 : a0 → a1 → Prop} {P7 R : a0 → a1 → a2 → a3 → Prop} {G : Prop} (h : P0 ∧ (∃ x0 x1, P3 x0 x1 ∧ P4 x0 x1 ∧ (∃ x2 x3, P7 x0 x1 x2 x3 ∧ R x0 x1 x2 x3))) (k : P0 → ∀ x0 x1, P3 x0 x1 → P4 x0 x1 → ∀ x2 x3, P7 x0 x1 x2 x3 → R x0 x1 x2 x3 → G) : G := h.2.elim fun x0 h0 => h0.elim fun x1 h1 => h1.2.2.elim fun x2 h2 => h2.elim fun x3 h3 => k h.1 x0 x1 h1.1 h1.2.1 x2 x3 h3.1 h3.2
theorem zbR {a0 a1 a2 : Type} {P3 P4 P5 P6 P7 R : a0 → a1 → a2 → Prop} {G : Prop} (h : ∃ x0 x1 x2, P3 x0 x1 x2 ∧ P4 x0 x1 x2 ∧ P5 x0 x1 x2 ∧ P6 x0 x1 x2 ∧ P7 x0 x1 x2 ∧ R x0 x1 x2) (k : ∀ x0 x1 x2, P3 x0 x1 x2 → P4 x0 x1 x2 → P5 x0 x1 x2 → P6 x0 x1 x2 → P7 x0 x1 x2 → R x0 x1 x2 → G) : G := h.elim fun x0 h0 => h0.elim fun x1 h1 => h1.elim fun x2 h2 => k x0 x1 x2 h2.1 h2.2.1 h2.2.2.1 h2.2.2.2.1 h2.2.2.2.2.1 h2.2.2.2.2.2
theorem zgq {a0 a1 a2 a3 : Type} {P4 P5 P6 P7 R : a0 → a1 → a2 → a3 → Prop} {G : Prop} (h : ∃ x0 x1 x2 x3, P4 x0 x1 x2 x3 ∧ P5 x0 x1 x2 x3 ∧ P6 x0 x1 x2 x3 ∧ P7 x0 x1 x2 x3 ∧ R x0 x1 x2 x3) (k : ∀ x0 x1 x2 x3, P4 x0 x1 x2 x3 → P5 x0 x1 x2 x3 → P6 x0 x1 x2 x3 → P7 x0 x1 x2 x3 → R x0 x1 x2 x3 → G) : G := h.elim fun x0 h0 => h0.elim fun x1 h1 => h1.elim fun x2 h2 => h2.elim fun x3 h3 => k x0 x1 x2 x3 h3.1 h3.2.1 h3.2.2.1 h3.2.2.2.1 h3.2.2.2.2
theorem zgp {a0 a1 a2 a3 a4 : Type} {P5 P6 P7 R : a0 → a1 → a2 → a3 → a4 → Prop} {G : Prop} (h : ∃ x0 x1 x2 x3 x4, P5 x0 x1 x2 x3 x4 ∧ P6 x0 x1 x2 x3 x4 ∧ P7 x0 x1 x2 x3 x4 ∧ R x0 x1 x2 x3 x4) (k : ∀ x0 x1 x2 x3 x4, P5 x0 x1 x2 x3 x4 → P6 x0 x1 x2 x3 x4 → P7 x0 x1 x2 x3 x4 → R x0 x1 x2 x3 x4 → G) : G := h.elim fun x0 h0 => h0.elim fun x1 h1 => h1.elim fun x2 h2 => h2.elim fun x3 h3 => h3.elim fun x4 h4 => k x0 x1 x2 x3 x4 h4.1 h4.2.1 h4.2.2.1 h4.2.2.2
theorem zfo {P0 P1 P2 P3 P4 P5 P6 P7 P8 R : Prop} {G : Prop} (h : P0 ∧ P1 ∧ P2 ∧ P3 ∧ P4 ∧ P5 ∧ P6 ∧ P7 ∧ P8 ∧ R) (k : P0 → P1 → P2 → P3 → P4 → P5 → P6 → P7 → P8 → R → G) : G := k h.1 h.2.1 h.2.2.1 h.2.2.2.1 h.2.2.2.2.1 h.2.2.2.2.2.1 h.2.2.2.2.2.2.1 h.2.2.2.2.2.2.2.1 h.2.2.2.2.2.2.2.2.1 h.2.2.2.2.2.2.2.2.2
theorem ziG {a0 a1 : Type} {P0 : Prop} {P3 P4 P5 P6 P7 P8 R : a0 → a1 → Prop} {G : Prop} (h : P0 ∧ (∃ x0 x1, P3 x0 x1 ∧ P4 x0 x1 ∧ P5 x0 x1 ∧ P6 x0 x1 ∧ P7 x0 x1 ∧ P8 x0 x1 ∧ R x0 x1)) (k : P0 → ∀ x0 x1, P3 x0 x1 → P4 x0 x1 → P5 x0 x1 → P6 x0 x1 → P7 x0 x1 → P8 x0 x1 → R x0 x1 → G) : G := h.2.elim fun x0 h0 => h0.elim fun x1 h1 => k h.1 x0 x1 h1.1 h1.2.1 h1.2.2.1 h1.2.2.2.1 h1.2.2.2.2.1 h1.2.2.2.2.2.1 h1.2.2.2.2.2.2
theorem zb4 {a0 a1 a2 : Type} {P3 P4 P5 P6 P7 P8 R : a0 → a1 → a2 → Prop} {G : Prop} (h : ∃ x0 x1 x2, P3 x0 x1 x2 ∧ P4 x0 x1 x2 ∧ P5 x0 x1 x2 ∧ P6 x0 x1 x2 ∧ P7 x0 x1 x2 ∧ P8 x0 x1 x2 ∧ R x0 x1 x2) (k : ∀ x0 x1 x2, P3 x0 x1 x2 → P4 x0 x1 x2 → P5 x0 x1 x2 → P6 x0 x1 x2 → P7 x0 x1 x2 → P8 x0 x1 x2 → R x0 x1 x2 → G) : G := h.elim fun x0 h0 => h0.elim fun x1 h1 => h1.elim fun x2 h2 => k x0 x1 x2 h2.1 h2.2.1 h2.2.2.1 h2.2.2.2.1 h2.2.2.2.2.1 h2.2.2.2.2.2.1 h2.2.2.2.2.2.2
theorem zdz {a0 a1 a2 a3 : Type} {P4 P5 P6 P7 P8 R : a0 → a1 → a2 → a3 → Prop} {G : Prop} (h : ∃ x0 x1 x2 x3, P4 x0 x1 x2 x3 ∧ P5 x0 x1 x2 x3 ∧ P6 x0 x1 x2 x3 ∧ P7 x0 x1 x2 x3 ∧ P8 x0 x1 x2 x3 ∧ R x0 x1 x2 x3) (k : ∀ x0 x1 x2 x3, P4 x0 x1 x2 x3 → P5 x0 x1 x2 x3 → P6 x0 x1 x2 x3 → P7 x0 x1 x2 x3 → P8 x0 x1 x2 x3 → R x0 x1 x2 x3 → G) : G := h.elim fun x0 h0 => h0.elim fun x1 h1 => h1.elim fun x2 h2 => h2.elim fun x3 h3 => k x0 x1 x2 x3 h3.1 h3.2.1 h3.2.2.1 h3.2.2.2.1 h3.2.2.2.2.1 h3.2.2.2.2.2
theorem zg8 {a0 a1 a2 a3 : Type} {P4 P5 P6 P7 P8 P9 R : a0 → a1 → a2 → a3 → Prop} {G : Prop} (h : ∃ x0 x1 x2 x3, P4 x0 x1 x2 x3 ∧ P5 x0 x1 x2 x3 ∧ P6 x0 x1 x2 x3 ∧ P7 x0 x1 x2 x3 ∧ P8 x0 x1 x2 x3 ∧ P9 x0 x1 x2 x3 ∧ R x0 x1 x2 x3) (k : ∀ x0 x1 x2 x3, P4 x0 x1 x2 x3 → P5 x0 x1 x2 x3 → P6 x0 x1 x2 x3 → P7 x0 x1 x2 x3 → P8 x0 x1 x2 x3 → P9 x0 x1 x2 x3 → R x0 x1 x2 x3 → G) : G := h.elim fun x0 h0 => h0.elim fun x1 h1 => h1.elim fun x2 h2 => h2.elim fun x3 h3 => k x0 x1 x2 x3 h3.1 h3.2.1 h3.2.2.1 h3.2.2.2.1 h3.2.2.2.2.1 h3.2.2.2.2.2.1 h3.2.2.2.2.2.2
theorem zgr {a0 a1 a2 : Type} {P0 : Prop} {P3 P4 P5 P6 P7 : a0 → a1 → Prop} {P9 P10 R : a0 → a1 → a2 → Prop} {G : Prop} (h : P0 ∧ (∃ x0 x1, P3 x0 x1 ∧ P4 x0 x1 ∧ P5 x0 x1 ∧ P6 x0 x1 ∧ P7 x0 x1 ∧ (∃ x2, P9 x0 x1 x2 ∧ P10 x0 x1 x2 ∧ R x0 x1 x2))) (k : P0 → ∀ x0 x1, P3 x0 x1 → P4 x0 x1 → P5 x0 x1 → P6 x0 x1 → P7 x0 x1 → ∀ x2, P9 x0 x1 x2 → P10 x0 x1 x2 → R x0 x1 x2 → G) : G := h.2.elim fun x0 h0 => h0.elim fun x1 h1 => h1.2.2.2.2.2.elim fun x2 h2 => k h.1 x0 x1 h1.1 h1.2.1 h1.2.2.1 h1.2.2.2.1 h1.2.2.2.2.1 x2 h2.1 h2.2.1 h2.2.2
theorem zfO {a0 a1 a2 a3 a4 : Type} {P0 P1 : Prop} {P7 P8 P9 P10 P11 R : a0 → a1 → a2 → a3 → a4 → Prop} {G : Prop} (h : P0 ∧ P1 ∧ (∃ x0 x1 x2 x3 x4, P7 x0 x1 x2 x3 x4 ∧ P8 x0 x1 x2 x3 x4 ∧ P9 x0 x1 x2 x3 x4 ∧ P10 x0 x1 x2 x3 x4 ∧ P11 x0 x1 x2 x3 x4 ∧ R x0 x1 x2 x3 x4)) (k : P0 → P1 → ∀ x0 x1 x2 x3 x4, P7 x0 x1 x2 x3 x4 → P8 x0 x1 x2 x3 x4 → P9 x0 x1 x2 x3 x4 → P10 x0 x1 x2 x3 x4 → P11 x0 x1 x2 x3 x4 → R x0 x1 x2 x3 x4 → G) : G := h.2.2.elim fun x0 h0 => h0.elim fun x1 h1 => h1.elim fun x2 h2 => h2.elim fun x3 h3 => h3.elim fun x4 h4 => k h.1 h.2.1 x0 x1 x2 x3 x4 h4.1 h4.2.1 h4.2.2.1 h4.2.2.2.1 h4.2.2.2.2.1 h4.2.2.2.2.2
theorem zea {a0 a1 a2 a3 a4 a5 a6 : Type} {P7 P8 P9 P10 P11 P12 P13 P14 R : a0 → a1 → a2 → a3 → a4 → a5 → a6 → Prop} {G : Prop} (h : ∃ x0 x1 x2 x3 x4 x5 x6, P7 x0 x1 x2 x3 x4 x5 x6 ∧ P8 x0 x1 x2 x3 x4 x5 x6 ∧ P9 x0 x1 x2 x3 x4 x5 x6 ∧ P10 x0 x1 x2 x3 x4 x5 x6 ∧ P11 x0 x1 x2 x3 x4 x5 x6 ∧ P12 x0 x1 x2 x3 x4 x5 x6 ∧ P13 x0 x1 x2 x3 x4 x5 x6 ∧ P14 x0 x1 x2 x3 x4 x5 x6 ∧ R x0 x1 x2 x3 x4 x5 x6) (k : ∀ x0 x1 x2 x3 x4 x5 x6, P7 x0 x1 x2 x3 x4 x5 x6 → P8 x0 x1 x2 x3 x4 x5 x6 → P9 x0 x1 x2 x3 x4 x5 x6 → P10 x0 x1 x2 x3 x4 x5 x6 → P11 x0 x1 x2 x3 x4 x5 x6 → P12 x0 x1 x2 x3 x4 x5 x6 → P13 x0 x1 x2 x3 x4 x5 x6 → P14 x0 x1 x2 x3 x4 x5 x6 → R x0 x1 x2 x3 x4 x5 x6 → G) : G := h.elim fun x0 h0 => h0.elim fun x1 h1 => h1.elim fun x2 h2 => h2.elim fun x3 h3 => h3.elim fun x4 h4 => h4.elim fun x5 h5 => h5.elim fun x6 h6 => k x0 x1 x2 x3 x4 x5 x6 h6.1 h6.2.1 h6.2.2.1 h6.2.2.2.1 h6.2.2.2.2.1 h6.2.2.2.2.2.1 h6.2.2.2.2.2.2.1 h6.2.2.2.2.2.2.2.1 h6.2.2.2.2.2.2.2.2
theorem zcT {a0 : Type} {P1 P2 P3 P4 P5 P6 P7 P8 P9 P10 P11 P12 P13 P14 P15 P16 P17 R : a0 → Prop} {G : Prop} (h : ∃ x0, P1 x0 ∧ P2 x0 ∧ P3 x0 ∧ P4 x0 ∧ P5 x0 ∧ P6 x0 ∧ P7 x0 ∧ P8 x0 ∧ P9 x0 ∧ P10 x0 ∧ P11 x0 ∧ P12 x0 ∧ P13 x0 ∧ P14 x0 ∧ P15 x0 ∧ P16 x0 ∧ P17 x0 ∧ R x0) (k : ∀ x0, P1 x0 → P2 x0 → P3 x0 → P4 x0 → P5 x0 → P6 x0 → P7 x0 → P8 x0 → P9 x0 → P10 x0 → P11 x0 → P12 x0 → P13 x0 → P14 x0 → P15 x0 → P16 x0 → P17 x0 → R x0 → G) : G := h.elim fun x0 h0 => k x0 h0.1 h0.2.1 h0.2.2.1 h0.2.2.2.1 h0.2.2.2.2.1 h0.2.2.2.2.2.1 h0.2.2.2.2.2.2.1 h0.2.2.2.2.2.2.2.1 h0.2.2.2.2.2.2.2.2.1 h0.2.2.2.2.2.2.2.2.2.1 h0.2.2.2.2.2.2.2.2.2.2.1 h0.2.2.2.2.2.2.2.2.2.2.2.1 h0.2.2.2.2.2.2.2.2.2.2.2.2.1 h0.2.2.2.2.2.2.2.2.2.2.2.2.2.1 h0.2.2.2.2.2.2.2.2.2.2.2.2.2.2.1 h0.2.2.2.2.2.2.2.2.2.2.2.2.2.2.2.1 h0.2.2.2.2.2.2.2.2.2.2.2.2.2.2.2.2.1 h0.2.2.2.2.2.2.2.2.2.2.2.2.2.2.2.2.2
theorem sQQ {b0 b1 : Type} {f0 : b0} {f1 : b1} {G : b0 → b1 → Prop} (k : G f0 f1) : ∀ v0 v1, v0 = f0 ∧ v1 = f1 → G v0 v1 := fun _ _ h => h.1.symm ▸ h.2.symm ▸ k
theorem sAQ {b : Type} {P0 : Prop} {f : b} {G : b → Prop} (k : P0 → G f) : ∀ v, (P0 ∧ v = f) → G v := fun v h => h.2.symm ▸ k h.1
theorem zof {a0 a1 b : Type} {f : a0 → a1 → b} {G : b → Prop} (k : ∀ x0 x1, G (f x0 x1)) : ∀ v, (∃ x0 x1, v = f x0 x1) → G v := fun v h => h.elim fun x0 h0 => h0.elim fun x1 h1 => h1.symm ▸ k x0 x1
theorem zhi {a0 a1 b : Type} {P0 : a0 → a1 → Prop} {f : a0 → a1 → b} {G : b → Prop} (k : ∀ x0 x1, P0 x0 x1 → G (f x0 x1)) : ∀ v, (∃ x0 x1, P0 x0 x1 ∧ v = f x0 x1) → G v := fun v h => h.elim fun x0 h0 => h0.elim fun x1 h1 => h1.2.symm ▸ k x0 x1 h1.1
theorem zog {a0 b : Type} {P0 P1 P2 : a0 → Prop} {f : a0 → b} {G : b → Prop} (k : ∀ x0, P0 x0 → P1 x0 → P2 x0 → G (f x0)) : ∀ v, (∃ x0, P0 x0 ∧ P1 x0 ∧ P2 x0 ∧ v = f x0) → G v := fun v h => h.elim fun x0 h0 => h0.2.2.2.symm ▸ k x0 h0.1 h0.2.1 h0.2.2.1
theorem zfv {a0 a1 a2 b : Type} {P0 : a0 → a1 → a2 → Prop} {f : a0 → a1 → a2 → b} {G : b → Prop} (k : ∀ x0 x1 x2, P0 x0 x1 x2 → G (f x0 x1 x2)) : ∀ v, (∃ x0 x1 x2, P0 x0 x1 x2 ∧ v = f x0 x1 x2) → G v := fun v h => h.elim fun x0 h0 => h0.elim fun x1 h1 => h1.elim fun x2 h2 => h2.2.symm ▸ k x0 x1 x2 h2.1
theorem zhh {a0 a1 a2 a3 b : Type} {P0 : a0 → a1 → a2 → a3 → Prop} {f : a0 → a1 → a2 → a3 → b} {G : b → Prop} (k : ∀ x0 x1 x2 x3, P0 x0 x1 x2 x3 → G (f x0 x1 x2 x3)) : ∀ v, (∃ x0 x1 x2 x3, P0 x0 x1 x2 x3 ∧ v = f x0 x1 x2 x3) → G v := fun v h => h.elim fun x0 h0 => h0.elim fun x1 h1 => h1.elim fun x2 h2 => h2.elim fun x3 h3 => h3.2.symm ▸ k x0 x1 x2 x3 h3.1
theorem zgB {a0 a1 b : Type} {P0 P1 P2 P3 P4 : a0 → a1 → Prop} {f : a0 → a1 → b} {G : b → Prop} (k : ∀ x0 x1, P0 x0 x1 → P1 x0 x1 → P2 x0 x1 → P3 x0 x1 → P4 x0 x1 → G (f x0 x1)) : ∀ v, (∃ x0 x1, P0 x0 x1 ∧ P1 x0 x1 ∧ P2 x0 x1 ∧ P3 x0 x1 ∧ P4 x0 x1 ∧ v = f x0 x1) → G v := fun v h => h.elim fun x0 h0 => h0.elim fun x1 h1 => h1.2.2.2.2.2.symm ▸ k x0 x1 h1.1 h1.2.1 h1.2.2.1 h1.2.2.2.1 h1.2.2.2.2.1
theorem zdE {a0 a1 a2 a3 a4 b : Type} {P0 P1 P2 : a0 → a1 → a2 → a3 → a4 → Prop} {f : a0 → a1 → a2 → a3 → a4 → b} {G : b → Prop} (k : ∀ x0 x1 x2 x3 x4, P0 x0 x1 x2 x3 x4 → P1 x0 x1 x2 x3 x4 → P2 x0 x1 x2 x3 x4 → G (f x0 x1 x2 x3 x4)) : ∀ v, (∃ x0 x1 x2 x3 x4, P0 x0 x1 x2 x3 x4 ∧ P1 x0 x1 x2 x3 x4 ∧ P2 x0 x1 x2 x3 x4 ∧ v = f x0 x1 x2 x3 x4) → G v := fun v h => h.elim fun x0 h0 => h0.elim fun x1 h1 => h1.elim fun x2 h2 => h2.elim fun x3 h3 => h3.elim fun x4 h4 => h4.2.2.2.symm ▸ k x0 x1 x2 x3 x4 h4.1 h4.2.1 h4.2.2.1
theorem zdd {a0 a1 a2 a3 a4 a5 b : Type} {P0 P1 P2 P3 P4 : a0 → a1 → a2 → a3 → a4 → a5 → Prop} {f : a0 → a1 → a2 → a3 → a4 → a5 → b} {G : b → Prop} (k : ∀ x0 x1 x2 x3 x4 x5, P0 x0 x1 x2 x3 x4 x5 → P1 x0 x1 x2 x3 x4 x5 → P2 x0 x1 x2 x3 x4 x5 → P3 x0 x1 x2 x3 x4 x5 → P4 x0 x1 x2 x3 x4 x5 → G (f x0 x1 x2 x3 x4 x5)) : ∀ v, (∃ x0 x1 x2 x3 x4 x5, P0 x0 x1 x2 x3 x4 x5 ∧ P1 x0 x1 x2 x3 x4 x5 ∧ P2 x0 x1 x2 x3 x4 x5 ∧ P3 x0 x1 x2 x3 x4 x5 ∧ P4 x0 x1 x2 x3 x4 x5 ∧ v = f x0 x1 x2 x3 x4 x5) → G v := fun v h => h.elim fun x0 h0 => h0.elim fun x1 h1 => h1.elim fun x2 h2 => h2.elim fun x3 h3 => h3.elim fun x4 h4 => h4.elim fun x5 h5 => h5.2.2.2.2.2.symm ▸ k x0 x1 x2 x3 x4 x5 h5.1 h5.2.1 h5.2.2.1 h5.2.2.2.1 h5.2.2.2.2.1
theorem xB {G : Prop} (h : false = true) : G := Bool.noConfusion h
theorem xN {α : Type} {a : α} {G : Prop} (h : none = some a) : G := nomatch h
theorem oA {a b c : Nat} (h : a ≤ b) (e : Nat.ble b c = true) : a ≤ c := Nat.le_trans h (Nat.le_of_ble_eq_true e)
theorem oB {a b c : Nat} (h : a ≤ b) (e : Nat.ble (b + 1) c = true) : a < c := Nat.lt_of_le_of_lt h (Nat.le_of_ble_eq_true e)
theorem oC {a b c : Nat} (h : a < b) (e : Nat.ble b c = true) : a < c := Nat.lt_of_lt_of_le h (Nat.le_of_ble_eq_true e)
theorem oE {a b c : Int} (h : a ≤ b) (e : decide (b ≤ c) = true) : a ≤ c := Int.le_trans h (of_decide_eq_true e)
theorem oF {a b c : Int} (h : a ≤ b) (e : decide (b < c) = true) : a < c := Int.lt_of_le_of_lt h (of_decide_eq_true e)
theorem oG {a b c : Int} (e : decide (a ≤ b) = true) (h : b ≤ c) : a ≤ c := Int.le_trans (of_decide_eq_true e) h
@[elab_as_elim] theorem mcE {α : Type} {a : α} {l : List α} {motive : α → Prop} {x : α} (hx : x ∈ a :: l) (h : motive a) (t : ∀ x, x ∈ l → motive x) : motive x := (List.mem_cons.mp hx).elim (fun e => e ▸ h) (t x)
theorem mz1 {α : Type} {x a : α} {l : List α} : x ∈ a :: x :: l := .tail _ (.head _)
theorem mz2 {α : Type} {x a b : α} {l : List α} : x ∈ a :: b :: x :: l := .tail _ (.tail _ (.head _))
theorem mz3 {α : Type} {x a b c : α} {l : List α} : x ∈ a :: b :: c :: x :: l := .tail _ (.tail _ (.tail _ (.head _)))
theorem mz4 {α : Type} {x a b c d : α} {l : List α} : x ∈ a :: b :: c :: d :: x :: l := .tail _ (.tail _ (.tail _ (.tail _ (.head _))))
theorem mz5 {α : Type} {x a b c d e : α} {l : List α} : x ∈ a :: b :: c :: d :: e :: x :: l := .tail _ (.tail _ (.tail _ (.tail _ (.tail _ (.head _)))))
theorem mz6 {α : Type} {x a b c d e f : α} {l : List α} : x ∈ a :: b :: c :: d :: e :: f :: x :: l := .tail _ (.tail _ (.tail _ (.tail _ (.tail _ (.tail _ (.head _))))))
theorem mz7 {α : Type} {x a b c d e f g : α} {l : List α} : x ∈ a :: b :: c :: d :: e :: f :: g :: x :: l := .tail _ (.tail _ (.tail _ (.tail _ (.tail _ (.tail _ (.tail _ (.head _)))))))
theorem mzt {α : Type} {x a b c d e f g w : α} {l : List α} (h : x ∈ l) : x ∈ a :: b :: c :: d :: e :: f :: g :: w :: l := .tail _ (.tail _ (.tail _ (.tail _ (.tail _ (.tail _ (.tail _ (.tail _ (h))))))))
theorem znR {α : Type} {n : Nat} {l : List α} (e : l.length = n + 1) : ∃ a r, l = a :: r ∧ r.length = n := by
 cases l with
 | nil => cases e
 | cons a r => exact ⟨a, r, rfl, Nat.succ.inj e⟩
theorem zk3 {α : Type} {l : List α} (e : l.length = 1) : ∃ a, l = [a] := by
 obtain ⟨a, r, rfl, e9⟩ := znR e
 exact ⟨a, by (rewrite [List.eq_nil_of_length_eq_zero e9]; with_reducible rfl)⟩
theorem znd {α : Type} {l : List α} (e : l.length = 2) : ∃ a b, l = [a, b] := by
 obtain ⟨a, r, rfl, e9⟩ := znR e
 obtain ⟨b, rfl⟩ := zk3 e9
 exact ⟨a, b, rfl⟩
theorem zpW {α : Type} {l : List α} (e : l.length = 3) : ∃ a b c, l = [a, b, c] := by
 obtain ⟨a, r, rfl, e9⟩ := znR e
 obtain ⟨b, c, rfl⟩ := znd e9
 exact ⟨a, b, c, rfl⟩
theorem zqn {α : Type} {l : List α} (e : l.length = 4) : ∃ a b c d, l = [a, b, c, d] := by
 obtain ⟨a, r, rfl, e9⟩ := znR e
 obtain ⟨b, c, d, rfl⟩ := zpW e9
 exact ⟨a, b, c, d, rfl⟩
theorem zqm {α : Type} {l : List α} (e : l.length = 5) : ∃ a b c d f, l = [a, b, c, d, f] := by
 obtain ⟨a, r, rfl, e9⟩ := znR e
 obtain ⟨b, c, d, f, rfl⟩ := zqn e9
 exact ⟨a, b, c, d, f, rfl⟩
theorem zqW {α : Type} {l : List α} (e : l.length = 6) : ∃ a b c d f g, l = [a, b, c, d, f, g] := by
 obtain ⟨a, r, rfl, e9⟩ := znR e
 obtain ⟨b, c, d, f, g, rfl⟩ := zqm e9
 exact ⟨a, b, c, d, f, g, rfl⟩
inductive AV where
 | none
 | bool (b : Bool)
 | int (i : Int)
 | str (s : Str)
 | bytes (b : Array UInt8)
 | ty (n : String)
 | bi (n : String)
 | ref (a : Addr)
 | tup (l : List AV)
noncomputable def zfn (h : Heap) (a : Addr) (xs : Array Value) : Prop := ∃ n, IsT h a xs n
theorem zfn.isTup {h : Heap} {a : Addr} {xs : Array Value} (x : zfn h a xs) : IsTup h a xs := let ⟨n, e⟩ := x; ⟨_, e, rfl, n, rfl⟩
mutual
inductive VR (h : Heap) : Value → AV → Prop
 | none : VR h .none .none
 | bool {b : Bool} : VR h (.bool b) (.bool b)
 | int {i : Int} {t : Tok} : VR h (.int i t) (.int i)
 | str {s : Str} {t : Tok} : VR h (.str s t) (.str s)
 | bytes {s : Array UInt8} {t : Tok} : VR h (.bytes s t) (.bytes s)
 | ty {n : String} : VR h (.type n) (.ty n)
 | bi {n : String} : VR h (.builtin n) (.bi n)
 | ref {a : Addr} : VR h (.ref a) (.ref a)
 | tup {a : Addr} {xs : Array Value} {l : List AV} : zfn h a xs → VRs h xs.toList l → VR h (.ref a) (.tup l)
inductive VRs (h : Heap) : List Value → List AV → Prop
 | nil : VRs h [] []
 | cons {v : Value} {a : AV} {vs : List Value} {l : List AV} : VR h v a → VRs h vs l → VRs h (v :: vs) (a :: l)
end
noncomputable def zqZ (h : Heap) (v : Value) : AV → Prop
 | .none => v = .none
 | .bool b => v = .bool b
 | .int i => ∃ t, v = .int i t
 | .str s => ∃ t, v = .str s t
 | .bytes s => ∃ t, v = .bytes s t
 | .ty n => v = .type n
 | .bi n => v = .builtin n
 | .ref a => v = .ref a
 | .tup l => ∃ a xs, v = .ref a ∧ zfn h a xs ∧ VRs h xs.toList l
theorem VR.inv {h : Heap} {v : Value} {a : AV} (r : VR h v a) : zqZ h v a :=
 VR.casesOn (motive_1 := fun v a _ => zqZ h v a) r rfl rfl ⟨_, rfl⟩ ⟨_, rfl⟩ ⟨_, rfl⟩ rfl rfl rfl fun t rs => ⟨_, _, rfl, t, rs⟩
noncomputable def zq0 (h : Heap) (vs : List Value) : List AV → Prop
 | [] => vs = []
 | a :: l => ∃ v ws, vs = v :: ws ∧ VR h v a ∧ VRs h ws l
theorem VRs.inv {h : Heap} {vs : List Value} {l : List AV} (r : VRs h vs l) : zq0 h vs l :=
 VRs.casesOn (motive_2 := fun vs l _ => zq0 h vs l) r rfl fun r rs => ⟨_, _, rfl, r, rs⟩
theorem VR.isRef {h : Heap} {v : Value} {a : Addr} (r : VR h v (.ref a)) : v = .ref a := r.inv
theorem VR.isBi {h : Heap} {v : Value} {n : String} (r : VR h v (.bi n)) : v = .builtin n := r.inv
theorem VRs.isNil {h : Heap} {vs : List Value} (r : VRs h vs []) : vs = [] := r.inv
theorem VRs.consA {h : Heap} {a : AV} {l : List AV} {G : List Value → Prop} (k : ∀ v ws, VR h v a → VRs h ws l → G (v :: ws)) : ∀ vs, VRs h vs (a :: l) → G vs := fun vs r => by cases r with | cons r rs => exact k _ _ r rs
theorem VR.tupA {h : Heap} {l : List AV} {G : Value → Prop} (k : ∀ a xs, zfn h a xs → VRs h xs.toList l → G (.ref a)) : ∀ v, VR h v (.tup l) → G v := fun v r => by cases r with | tup t rs => exact k _ _ t rs
theorem VRs.inv1 {h : Heap} {vs : List Value} {a : AV} (r : VRs h vs [a]) : ∃ v, vs = [v] ∧ VR h v a := by
 obtain ⟨v, ws, rfl, r1, rs⟩ := r.inv
 obtain rfl := rs.inv
 exact ⟨v, rfl, r1⟩
theorem VRs.inv2 {h : Heap} {vs : List Value} {a b : AV} (r : VRs h vs [a, b]) : ∃ v u, vs = [v, u] ∧ VR h v a ∧ VR h u b := by
 obtain ⟨v, ws, rfl, r1, rs⟩ := r.inv
 obtain ⟨u, rfl, r2⟩ := rs.inv1
 exact ⟨v, u, rfl, r1, r2⟩
theorem VRs.inv3 {h : Heap} {vs : List Value} {a b c : AV} (r : VRs h vs [a, b, c]) : ∃ v u w, vs = [v, u, w] ∧ VR h v a ∧ VR h u b ∧ VR h w c := by
 obtain ⟨v, ws, rfl, r1, rs⟩ := r.inv
 obtain ⟨u, w, rfl, r2, r3⟩ := rs.inv2
 exact ⟨v, u, w, rfl, r1, r2, r3⟩
noncomputable def Ext (h h' : Heap) : Prop := ∀ a xs, zfn h a xs → zfn h' a xs
theorem Ext.refl (h : Heap) : Ext h h := fun _ _ t => t
theorem Ext.trans {a b c : Heap} (x : Ext a b) (y : Ext b c) : Ext a c := fun p q t => y p q (x p q t)
theorem Ext.of_keeps {h h' : Heap} (k : ∀ b o, h.get? b = some o → h'.get? b = some o) : Ext h h' := fun _ _ ⟨n, e⟩ => ⟨n, k _ _ e⟩
theorem VR.mono {h h' : Heap} (x : Ext h h') {v : Value} {a : AV} (r : VR h v a) : VR h' v a :=
 VR.rec (motive_1 := fun v a _ => VR h' v a) (motive_2 := fun vs l _ => VRs h' vs l) .none .bool .int .str .bytes .ty .bi .ref (fun t _ ih => .tup (x _ _ t) ih) .nil (fun _ _ r rs => .cons r rs) r
theorem VRs.ind {h : Heap} {P : List Value → List AV → Prop} (n : P [] []) (c : ∀ v a vs l, VR h v a → VRs h vs l → P vs l → P (v :: vs) (a :: l)) {vs : List Value} {l : List AV} (r : VRs h vs l) : P vs l :=
 VRs.rec (motive_1 := fun _ _ _ => True) (motive_2 := fun vs l _ => P vs l) trivial trivial trivial trivial trivial trivial trivial trivial (fun _ _ _ => trivial) n (fun r rs _ ih => c _ _ _ _ r rs ih) r
theorem VRs.mono {h h' : Heap} (x : Ext h h') {v : List Value} {a : List AV} (r : VRs h v a) : VRs h' v a :=
 VRs.ind .nil (fun _ _ _ _ r _ ih => .cons (r.mono x) ih) r
theorem VRs.len {h : Heap} {v : List Value} {a : List AV} (r : VRs h v a) : v.length = a.length :=
 VRs.ind (P := fun v a => v.length = a.length) rfl (fun _ _ _ _ _ _ ih => congrArg (· + 1) ih) r
theorem VRs.append {h : Heap} {v : List Value} {a : List AV} {v' : List Value} {a' : List AV} (r : VRs h v a) (r' : VRs h v' a') : VRs h (v ++ v') (a ++ a') :=
 VRs.ind (P := fun v a => VRs h (v ++ v') (a ++ a')) r' (fun _ _ _ _ r _ ih => .cons r ih) r
theorem VRs.at {h : Heap} {v : List Value} {a : List AV} {i : Nat} {x : AV} (r : VRs h v a) (e : a[i]? = some x) : ∃ u, v[i]? = some u ∧ VR h u x :=
 VRs.ind (P := fun v a => ∀ i, a[i]? = some x → ∃ u, v[i]? = some u ∧ VR h u x) (fun _ e => xN (List.getElem?_nil.symm.trans e)) (fun v a vs l r _ ih i e => match i with
  | 0 => ⟨v, rfl, Option.some.inj (show some a = some x from e) ▸ r⟩
  | i + 1 => ih i e) r i e
inductive zaa where
 | list (l : List AV)
 | ns (m : List (Str × Option AV))
 | dict (l : List (Str × AV))
 | inst (C d : Addr)
 | exc (C d : Addr)
 | cell (v : Option AV)
 | raw (o : Obj)
 | rev (xs : List AV) (i : Int)
noncomputable def zk2 (t : Addr) (i : Int) : Obj := { cls := .type "reversed", data := .fields #[.ref t, rawInt i] }
noncomputable abbrev Led := List (Addr × zaa)
noncomputable def zgJ (m : List (Str × Option AV)) (x : Str) : Option AV := match m with
 | [] => none
 | p :: r => if x = p.1 then p.2 else zgJ r x
noncomputable def zjt (h : Heap) : Option Value → Option AV → Prop
 | none, none => True
 | some v, some a => VR h v a
 | _, _ => False
theorem zjt.mono {h h' : Heap} (x : Ext h h') : ∀ {v : Option Value} {a : Option AV}, zjt h v a → zjt h' v a
 | none, none, _ => trivial
 | some _, some _, r => VR.mono x r
 | none, some _, r => r.elim
 | some _, none, r => r.elim
inductive KvR (h : Heap) : List (Str × Value) → List (Str × AV) → Prop
 | nil : KvR h [] []
 | cons {k : Str} {v : Value} {a : AV} {vs : List (Str × Value)} {l : List (Str × AV)} : VR h v a → KvR h vs l → KvR h ((k, v) :: vs) ((k, a) :: l)
theorem KvR.mono {h h' : Heap} (x : Ext h h') {vs : List (Str × Value)} {l : List (Str × AV)} (r : KvR h vs l) : KvR h' vs l := by
 induction r with
 | nil => exact .nil
 | cons r _ ih => exact .cons (r.mono x) ih
structure zan where
 prog : Program
 w : World
 h₀ : Heap
 os : OsState
 K : Frag
 kin : K.In h₀
 nolimit : h₀.NoLimit
 bns : ∃ mb, h₀.Ns builtinsNs mb ∧ ∀ x : Str, x ≠ "__name__" → mb x = bootBuiltins x
 gns : ∃ mg bm ob, h₀.Ns mainGlobals mg ∧ mg "__builtins__" = some (.ref bm) ∧ bm ≠ builtinsNs ∧ h₀.get? bm = some ob ∧ ob.cls = .type "module" ∧ ob.dict = some builtinsNs ∧ ob.data = .plain
 tabs : List (Addr × Addr)
 codes : ∀ q ∈ tabs, CodeHd h₀ q.1 q.2
noncomputable def zrF (h₀ h : Heap) (e : Addr) (v : Value) : Prop := v = .none ∨ ∃ T oT ts, v = .ref T ∧ T ≠ e ∧ h₀.get? T = none ∧ h.get? T = some oT ∧ oT.data = .fields ts ∧ oT.cls = .type "traceback" ∧ 3 < ts.size
noncomputable def za2 (B : zan) (h : Heap) (a : Addr) : zaa → Prop
 | .list l => ∃ vs n, IsL h a vs n ∧ VRs h vs.toList l
 | .ns m => (m.map (·.1)).Nodup ∧ ∃ mm, h.Ns a mm ∧ ∀ x, zjt h (mm x) (zgJ m x)
 | .dict l => ∃ kvs, (h.DictOf (strKind B.prog B.w) a kvs ∧ (a == sysModules) = false) ∧ KvR h kvs l
 | .inst C d => h.get? a = some (instObj C d)
 | .exc C d => ∃ o vs, h.get? a = some o ∧ o.cls = .ref C ∧ o.dict = some d ∧ o.data = .fields vs ∧ 5 < vs.size
 | .cell v => ∃ o ov, h.get? a = some o ∧ o.data = .cell ov ∧ zjt h ov v
 | .raw o => (o.cls ≠ .type "tuple" ∧ o.cls ≠ .type "traceback") ∧ h.get? a = some o
 | .rev xs i => ∃ t ws, h.get? a = some (zk2 t i) ∧ zfn h t ws ∧ VRs h ws.toList xs
theorem za2.ob {B : zan} {h : Heap} {a : Addr} {c : zaa} (x : za2 B h a c) : ∃ o, h.get? a = some o ∧ (o.cls = .type "tuple" → ∀ xs n, o.data ≠ .seq xs n) ∧ (o.cls = .type "traceback" → ∀ ts, o.data ≠ .fields ts) := by
 cases c with
 | list l => exact zbE x fun vs n e _ => ⟨_, e, (fun q => absurd (Value.type.inj q) (by decide)), (fun q => absurd (Value.type.inj q) (by decide))⟩
 | ns m => exact x.2.elim fun mm y => y.1.elim fun o z => zbS z fun es ep e hd _ => ⟨o, e, (fun _ _ _ q => nomatch hd.symm.trans q), (fun _ _ q => nomatch hd.symm.trans q)⟩
 | dict l => exact x.elim fun mm y => y.1.1.elim fun o z => zhT z fun es ep e _ hd _ => ⟨o, e, (fun _ _ _ q => nomatch hd.symm.trans q), (fun _ _ q => nomatch hd.symm.trans q)⟩
 | inst C d => exact ⟨_, x, (fun q => nomatch q), (fun q => nomatch q)⟩
 | exc C d => exact zbS x fun o vs e hc _ => ⟨o, e, (fun q => nomatch hc.symm.trans q), (fun q => nomatch hc.symm.trans q)⟩
 | cell v => exact zbS x fun o ov e hd _ => ⟨o, e, (fun _ _ _ q => nomatch hd.symm.trans q), (fun _ _ q => nomatch hd.symm.trans q)⟩
 | raw o => exact ⟨o, x.2, (fun q => absurd q x.1.1), (fun q => absurd q x.1.2)⟩
 | rev xs i => exact zbE x fun t ws e _ => ⟨_, e, (fun q => absurd (Value.type.inj q) (by decide)), (fun q => absurd (Value.type.inj q) (by decide))⟩
theorem zbi {B : zan} {h : Heap} {a : Addr} {c : zaa} (x : za2 B h a c) {xs : Array Value} (t : zfn h a xs) : False :=
 t.elim fun n e => zdx (za2.ob x) fun o e' f _ => f ((congrArg Obj.cls (Option.some.inj (e.symm.trans e'))).symm) xs n ((congrArg Obj.data (Option.some.inj (e.symm.trans e'))).symm)
theorem za2.there {B : zan} {h : Heap} {a : Addr} {c : zaa} (x : za2 B h a c) : ∃ o, h.get? a = some o := xEA (za2.ob x) fun o e _ => ⟨o, e⟩
theorem za2.keep {B : zan} {h h' : Heap} {a : Addr} {c : zaa} (x : za2 B h a c) (k : ∀ o, h.get? a = some o → h'.get? a = some o) (E : Ext h h') : za2 B h' a c := by
 cases c with
 | list l => obtain ⟨vs, n, e, q⟩ := x; exact ⟨vs, n, k _ e, q.mono E⟩
 | ns m => obtain ⟨nd, mm, ⟨o, es, ep, e, r⟩, q⟩ := x; exact ⟨nd, mm, ⟨o, es, ep, k _ e, r⟩, fun y => (q y).mono E⟩
 | dict l => obtain ⟨kvs, ⟨⟨o, es, ep, e, r⟩, hs⟩, q⟩ := x; exact ⟨kvs, ⟨⟨o, es, ep, k _ e, r⟩, hs⟩, q.mono E⟩
 | inst C d => exact k _ x
 | exc C d => obtain ⟨o, vs, e, r⟩ := x; exact ⟨o, vs, k _ e, r⟩
 | cell v => obtain ⟨o, ov, e, r, q⟩ := x; exact ⟨o, ov, k _ e, r, q.mono E⟩
 | raw o => exact ⟨x.1, k _ x.2⟩
 | rev xs i => obtain ⟨t, ws, e, q, r⟩ := x; exact ⟨t, ws, k _ e, E _ _ q, r.mono E⟩
theorem za2.lt {B : zan} {h : Heap} {a : Addr} {c : zaa} (x : za2 B h a c) : a < h.objs.size := let ⟨_, e⟩ := x.there; Heap.lt_size e
structure zaB (B : zan) (l : Led) (s : Shared) : Prop where
 base : ∀ b o, B.h₀.get? b = some o → s.heap.get? b = some o
 cells : ∀ p ∈ l, za2 B s.heap p.1 p.2
 nodup : (l.map (·.1)).Nodup
 apart : ∀ p ∈ l, B.h₀.get? p.1 = none
 os : s.os = B.os
 gens : s.gens = #[]
theorem zaB.kin {B : zan} {l : Led} {s : Shared} (G : zaB B l s) : B.K.In s.heap := B.kin.keeps G.base
theorem zaB.nolimit {B : zan} {l : Led} {s : Shared} (G : zaB B l s) : s.heap.NoLimit := B.nolimit.keeps G.base
theorem zaB.toks {B : zan} {l : Led} {s : Shared} (G : zaB B l s) (n : Nat) : zaB B l { s with toks := n } := ⟨G.base, G.cells, G.nodup, G.apart, G.os, G.gens⟩
theorem zaB.sub {B : zan} {l l' : Led} {s : Shared} (G : zaB B l s) (h : l'.Sublist l) : zaB B l' s :=
 ⟨G.base, fun p hp => G.cells p (h.subset hp), G.nodup.sublist (h.map _), fun p hp => G.apart p (h.subset hp), G.os, G.gens⟩
theorem zaB.perm {B : zan} {l l' : Led} {s : Shared} (G : zaB B l s) (h : l'.Perm l) : zaB B l' s :=
 ⟨G.base, fun p hp => G.cells p (h.mem_iff.mp hp), (h.map _).nodup_iff.mpr G.nodup, fun p hp => G.apart p (h.mem_iff.mp hp), G.os, G.gens⟩
inductive zgn : Led → Addr × zaa → Led → Prop
 | head {x : Addr × zaa} {r : Led} : zgn (x :: r) x r
 | tail {x y : Addr × zaa} {r r' : Led} : zgn r x r' → zgn (y :: r) x (y :: r')
theorem pz1 {x a : Addr × zaa} {r : Led} : zgn (a :: x :: r) x (a :: r) := .tail (.head)
theorem pz2 {x a b : Addr × zaa} {r : Led} : zgn (a :: b :: x :: r) x (a :: b :: r) := .tail (.tail (.head))
theorem pz3 {x a b c : Addr × zaa} {r : Led} : zgn (a :: b :: c :: x :: r) x (a :: b :: c :: r) := .tail (.tail (.tail (.head)))
theorem pz4 {x a b c d : Addr × zaa} {r : Led} : zgn (a :: b :: c :: d :: x :: r) x (a :: b :: c :: d :: r) := .tail (.tail (.tail (.tail (.head))))
theorem pz5 {x a b c d e : Addr × zaa} {r : Led} : zgn (a :: b :: c :: d :: e :: x :: r) x (a :: b :: c :: d :: e :: r) := .tail (.tail (.tail (.tail (.tail (.head)))))
theorem pz6 {x a b c d e f : Addr × zaa} {r : Led} : zgn (a :: b :: c :: d :: e :: f :: x :: r) x (a :: b :: c :: d :: e :: f :: r) := .tail (.tail (.tail (.tail (.tail (.tail (.head))))))
theorem pz7 {x a b c d e f g : Addr × zaa} {r : Led} : zgn (a :: b :: c :: d :: e :: f :: g :: x :: r) x (a :: b :: c :: d :: e :: f :: g :: r) := .tail (.tail (.tail (.tail (.tail (.tail (.tail (.head)))))))
theorem pzt {x a b c d e f g w : Addr × zaa} {r s : Led} (h : zgn r x s) : zgn (a :: b :: c :: d :: e :: f :: g :: w :: r) x (a :: b :: c :: d :: e :: f :: g :: w :: s) := .tail (.tail (.tail (.tail (.tail (.tail (.tail (.tail (h))))))))
theorem zgn.perm {l r : Led} {x : Addr × zaa} (p : zgn l x r) : (x :: r).Perm l := by
 induction p with
 | head => exact .refl _
 | tail _ ih => exact (List.Perm.swap ..).trans (ih.cons _)
noncomputable def Le (l' l : Led) : Prop := ∃ r, (l' ++ r).Perm l
theorem Le.refl {l : Led} : Le l l := ⟨[], by (rewrite [List.append_nil]; with_reducible rfl)⟩
theorem Le.nil {l : Led} : Le [] l := ⟨l, .refl _⟩
theorem Le.skip {l l' : Led} {x : Addr × zaa} (h : Le l' l) : Le l' (x :: l) := let ⟨r, p⟩ := h; ⟨x :: r, List.perm_middle.trans (p.cons x)⟩
theorem Le.pick {l l' r : Led} {x : Addr × zaa} (hp : zgn l x r) (h : Le l' r) : Le (x :: l') l := let ⟨q, p⟩ := h; ⟨q, (p.cons x).trans hp.perm⟩
theorem lz0 {x : Addr × zaa} {s r : Led} (q : Le s r) : Le (x :: s) (x :: r) := .pick .head q
theorem lz1 {x a : Addr × zaa} {s r : Led} (q : Le s (a :: r)) : Le (x :: s) (a :: x :: r) := .pick pz1 q
theorem lz2 {x a b : Addr × zaa} {s r : Led} (q : Le s (a :: b :: r)) : Le (x :: s) (a :: b :: x :: r) := .pick pz2 q
theorem lz3 {x a b c : Addr × zaa} {s r : Led} (q : Le s (a :: b :: c :: r)) : Le (x :: s) (a :: b :: c :: x :: r) := .pick pz3 q
theorem lz4 {x a b c d : Addr × zaa} {s r : Led} (q : Le s (a :: b :: c :: d :: r)) : Le (x :: s) (a :: b :: c :: d :: x :: r) := .pick pz4 q
theorem lz5 {x a b c d e : Addr × zaa} {s r : Led} (q : Le s (a :: b :: c :: d :: e :: r)) : Le (x :: s) (a :: b :: c :: d :: e :: x :: r) := .pick pz5 q
theorem lz6 {x a b c d e f : Addr × zaa} {s r : Led} (q : Le s (a :: b :: c :: d :: e :: f :: r)) : Le (x :: s) (a :: b :: c :: d :: e :: f :: x :: r) := .pick pz6 q
theorem lz7 {x a b c d e f g : Addr × zaa} {s r : Led} (q : Le s (a :: b :: c :: d :: e :: f :: g :: r)) : Le (x :: s) (a :: b :: c :: d :: e :: f :: g :: x :: r) := .pick pz7 q
theorem Le.app {l l' k : Led} (h : Le l' l) : Le (k ++ l') (k ++ l) := let ⟨q, p⟩ := h; ⟨q, by rewrite [List.append_assoc]; exact p.append_left k⟩
theorem Le.drop {l l' k : Led} (h : Le l' l) : Le l' (k ++ l) := let ⟨q, p⟩ := h; ⟨k ++ q, by
 have : (l' ++ (k ++ q)).Perm (k ++ (l' ++ q)) := by
  rwa [← List.append_assoc, ← List.append_assoc]
  exact List.perm_append_comm.append_right q
 exact this.trans (p.append_left k)⟩
theorem Le.turn {l l' k : Led} {x : Addr × zaa} (h : Le (x :: (k ++ l')) l) : Le (k ++ (x :: l')) l := let ⟨q, p⟩ := h; ⟨q, (by
 have : (k ++ x :: l').Perm (x :: (k ++ l')) := List.perm_middle
 exact (this.append_right q).trans p)⟩
theorem Le.trans {a b c : Led} (x : Le a b) (y : Le b c) : Le a c := let ⟨p, hp⟩ := x; let ⟨q, hq⟩ := y; ⟨p ++ q, by rewrite [← List.append_assoc]; exact (hp.append_right q).trans hq⟩
theorem Le.mem {l l' : Led} (e : Le l' l) : ∀ p ∈ l', p ∈ l := fun p h => let ⟨_, q⟩ := e; q.mem_iff.mp (List.mem_append_left _ h)
theorem zaB.le {B : zan} {l l' : Led} {s : Shared} (G : zaB B l s) (h : Le l' l) : zaB B l' s := let ⟨r, p⟩ := h; (G.perm p).sub (List.sublist_append_left ..)
theorem zaB.grow {B : zan} {l : Led} {s : Shared} (G : zaB B l s) {h' : Heap} (k : ∀ b o, s.heap.get? b = some o → h'.get? b = some o) (n : Nat) : zaB B l { s with heap := h', toks := n } :=
 ⟨fun b o e => k _ _ (G.base b o e), fun p hp => (G.cells p hp).keep (k _) (Ext.of_keeps k), G.nodup, G.apart, G.os, G.gens⟩
theorem zaB.push {B : zan} {l : Led} {s : Shared} (G : zaB B l s) (o : Obj) : zaB B l { s with heap := s.heap.push o } :=
 G.grow (fun _ _ e => Heap.get?_push_of_some o e) s.toks
theorem zaB.fresh {B : zan} {l : Led} {s : Shared} (G : zaB B l s) {a : Addr} (ha : s.heap.get? a = none) : a ∉ l.map (·.1) ∧ B.h₀.get? a = none := by
 constructor
 ·intro hm
  obtain ⟨p, hp, rfl⟩ := List.mem_map.mp hm
  obtain ⟨o, e⟩ := (G.cells p hp).there
  rw [ha] at e; cases e
 ·cases q : B.h₀.get? a with
  | none => rfl
  | some o => have := G.base a o q; rw [ha] at this; cases this
theorem zaB.add {B : zan} {l : Led} {s : Shared} (G : zaB B l s) {h' : Heap} {a : Addr} {c : zaa} (k : ∀ b o, s.heap.get? b = some o → h'.get? b = some o) (ha : s.heap.get? a = none)
  (hc : za2 B h' a c) (n : Nat) : zaB B ((a, c) :: l) { s with heap := h', toks := n } := by
 have G' := G.grow k n
 have f := G.fresh ha
 refine ⟨G'.base, ?_, ?_, ?_, G'.os, G'.gens⟩
 ·intro p hp
  refine mcE hp ?_ fun p hp => ?_
  ·exact hc
  ·exact G'.cells p hp
 ·rwa [List.map_cons, List.nodup_cons]; exact ⟨f.1, G.nodup⟩
 ·intro p hp
  refine mcE hp ?_ fun p hp => ?_
  ·exact f.2
  ·exact G.apart p hp
inductive Up : Led → Addr → zaa → (zaa → Led) → Prop
 | head {a : Addr} {c : zaa} {r : Led} : Up ((a, c) :: r) a c (fun c' => (a, c') :: r)
 | tail {a : Addr} {c : zaa} {x : Addr × zaa} {r : Led} {f : zaa → Led} : Up r a c f → Up (x :: r) a c (fun c' => x :: f c')
theorem uz1 {x : Addr} {y : zaa} {a : Addr × zaa} {r : Led} : Up (a :: (x, y) :: r) x y (fun k => a :: (x, k) :: r) := .tail (.head)
theorem uz2 {x : Addr} {y : zaa} {a b : Addr × zaa} {r : Led} : Up (a :: b :: (x, y) :: r) x y (fun k => a :: b :: (x, k) :: r) := .tail (.tail (.head))
theorem uz3 {x : Addr} {y : zaa} {a b c : Addr × zaa} {r : Led} : Up (a :: b :: c :: (x, y) :: r) x y (fun k => a :: b :: c :: (x, k) :: r) := .tail (.tail (.tail (.head)))
theorem uz4 {x : Addr} {y : zaa} {a b c d : Addr × zaa} {r : Led} : Up (a :: b :: c :: d :: (x, y) :: r) x y (fun k => a :: b :: c :: d :: (x, k) :: r) := .tail (.tail (.tail (.tail (.head))))
theorem uz5 {x : Addr} {y : zaa} {a b c d e : Addr × zaa} {r : Led} : Up (a :: b :: c :: d :: e :: (x, y) :: r) x y (fun k => a :: b :: c :: d :: e :: (x, k) :: r) := .tail (.tail (.tail (.tail (.tail (.head)))))
theorem uz6 {x : Addr} {y : zaa} {a b c d e f : Addr × zaa} {r : Led} : Up (a :: b :: c :: d :: e :: f :: (x, y) :: r) x y (fun k => a :: b :: c :: d :: e :: f :: (x, k) :: r) := .tail (.tail (.tail (.tail (.tail (.tail (.head))))))
theorem uz7 {x : Addr} {y : zaa} {a b c d e f g : Addr × zaa} {r : Led} : Up (a :: b :: c :: d :: e :: f :: g :: (x, y) :: r) x y (fun k => a :: b :: c :: d :: e :: f :: g :: (x, k) :: r) := .tail (.tail (.tail (.tail (.tail (.tail (.tail (.head)))))))
theorem uzt {x : Addr} {y : zaa} {a b c d e f g w : Addr × zaa} {r : Led} {s : zaa → Led} (u : Up r x y s) : Up (a :: b :: c :: d :: e :: f :: g :: w :: r) x y (fun k => a :: b :: c :: d :: e :: f :: g :: w :: s k) := .tail (.tail (.tail (.tail (.tail (.tail (.tail (.tail (u))))))))
theorem Up.mem {l : Led} {a : Addr} {c : zaa} {f : zaa → Led} (u : Up l a c f) : (a, c) ∈ l := by
 induction u with
 | head => exact .head _
 | tail _ ih => exact .tail _ ih
theorem Up.keys {l : Led} {a : Addr} {c : zaa} {f : zaa → Led} (u : Up l a c f) (c' : zaa) : (f c').map (·.1) = l.map (·.1) := by
 induction u with
 | head => rfl
 | tail _ ih => simp only [List.map_cons, ih]
theorem Up.mem' {l : Led} {a : Addr} {c : zaa} {f : zaa → Led} (u : Up l a c f) (c' : zaa) : ∀ p ∈ f c', p = (a, c') ∨ p ∈ l := by
 induction u with
 | head =>
  intro p hp
  refine mcE hp ?_ fun p hp => ?_
  ·exact .inl rfl
  ·exact .inr (.tail _ hp)
 | tail _ ih =>
  intro p hp
  refine mcE hp ?_ fun p hp => ?_
  ·exact .inr (.head _)
  ·exact (ih p hp).imp id (.tail _)
theorem Up.new {l : Led} {a : Addr} {c : zaa} {f : zaa → Led} (u : Up l a c f) (c' : zaa) : (a, c') ∈ f c' := by
 induction u with
 | head => exact .head _
 | tail _ ih => exact .tail _ ih
theorem Up.app {l k : Led} {a : Addr} {c : zaa} {f : zaa → Led} (u : Up l a c f) : Up (k ++ l) a c (fun c' => k ++ f c') := by
 induction k with
 | nil => exact u
 | cons x k ih => exact .tail ih
theorem zf9 {l : Led} (nd : (l.map (·.1)).Nodup) {p q : Addr × zaa} (hp : p ∈ l) (hq : q ∈ l) (e : p.1 = q.1) : p = q := by
 induction l with
 | nil => cases hp
 | cons x r ih =>
  rw [List.map_cons, List.nodup_cons] at nd
  rcases List.mem_cons.mp hp with rfl | h1
  ·rcases List.mem_cons.mp hq with rfl | h2
   ·rfl
   ·exact absurd (by rewrite [e]; exact List.mem_map_of_mem h2) nd.1
  ·rcases List.mem_cons.mp hq with rfl | h2
   ·exact absurd (by rewrite [← e]; exact List.mem_map_of_mem h1) nd.1
   ·exact ih nd.2 h1 h2
theorem zaB.turn {B : zan} {l : Led} {s : Shared} (G : zaB B l s) {a : Addr} {c c' : zaa} {f : zaa → Led} (u : Up l a c f) {h' : Heap} (k : ∀ b, b ≠ a → ∀ o, s.heap.get? b = some o → h'.get? b = some o)
  (hc : za2 B s.heap a c → Ext s.heap h' → za2 B h' a c') (n : Nat) : zaB B (f c') { s with heap := h', toks := n } ∧ Ext s.heap h' := by
 have ca := G.cells _ u.mem
 have E : Ext s.heap h' := fun b xs t => by
  by_cases e : b = a
  ·subst e; exact (zbi ca t).elim
  ·obtain ⟨n, h1⟩ := t; exact ⟨n, k b e _ h1⟩
 refine ⟨⟨fun b o e => k b (fun q => ?_) o (G.base b o e), fun p hp => ?_, ?_, fun p hp => ?_, G.os, G.gens⟩, E⟩
 ·have := G.apart _ u.mem; rw [← q] at this; dsimp only at this; rw [e] at this; cases this
 ·rcases u.mem' c' p hp with rfl | hp'
  ·exact hc ca E
  ·by_cases e : p.1 = a
   ·have nd : ((f c').map (·.1)).Nodup := by rewrite [u.keys]; exact G.nodup
    have := zf9 nd hp (u.new c') e
    subst this; exact hc ca E
   ·exact (G.cells p hp').keep (k _ e) E
 ·rwa [u.keys]; exact G.nodup
 ·rcases u.mem' c' p hp with rfl | hp'
  ·exact G.apart (a, c) u.mem
  ·exact G.apart p hp'
structure XV where
 e : Addr
 C : Addr
 d : Addr
noncomputable abbrev EQ := AV → Led → Prop
noncomputable abbrev XQ := XV → Led → Prop
noncomputable def znI (h₀ h : Heap) (e : Addr) : Prop := ∃ o vs v, h.get? e = some o ∧ o.data = .fields vs ∧ vs[1]? = some v ∧ zrF h₀ h e v
noncomputable def Res {α β : Type} (B : zan) (R : Heap → α → β → Prop) (h0 : Heap) (Φ : β → Led → Prop) (v : α) (s' : Shared) : Prop :=
 Ext h0 s'.heap ∧ ∃ b l', R s'.heap v b ∧ zaB B l' s' ∧ Φ b l'
noncomputable def Exn (B : zan) (h0 : Heap) (Ψ : XQ) (x : Value) (s' : Shared) : Prop :=
 Ext h0 s'.heap ∧ ∃ X l', x = .ref X.e ∧ (X.e, zaa.exc X.C X.d) ∈ l' ∧ znI B.h₀ s'.heap X.e ∧ zaB B l' s' ∧ Ψ X l'
noncomputable def Tr {α β : Type} (B : zan) (A : Around) (R : Heap → α → β → Prop) (t : Sem α) (l : Led) (Φ : β → Led → Prop) (Ψ : XQ) : Prop :=
 ∀ s, zaB B l s → wpAny (model B.prog B.w) A t (Res B R s.heap Φ) (Exn B s.heap Ψ) s
inductive Fl where
 | next | brk | cont
 | ret (v : AV)
inductive FR (h : Heap) : Flow → Fl → Prop
 | next : FR h .next .next
 | brk : FR h .brk .brk
 | cont : FR h .cont .cont
 | ret {v : Value} {a : AV} : VR h v a → FR h (.ret v) (.ret a)
noncomputable def BR (_ : Heap) (b b' : Bool) : Prop := b = b'
noncomputable def UR (_ : Heap) (_ : Unit) (_ : Unit) : Prop := True
structure Ev (B : zan) (A : Around) (env : Env) (l : Led) (e : Expr) (Φ : EQ) (Ψ : XQ) : Prop where
 mk ::
 go : Tr B A VR (eval e env) l Φ Ψ
structure Bv (B : zan) (A : Around) (env : Env) (l : Led) (e : Expr) (Φ : Bool → Led → Prop) (Ψ : XQ) : Prop where
 mk ::
 go : Tr B A BR (isTrue e env (eval e env)) l Φ Ψ
structure Es (B : zan) (A : Around) (env : Env) (pos : Pos) (l : Led) (es : List Expr) (Φ : List AV → Led → Prop) (Ψ : XQ) : Prop where
 mk ::
 go : Tr B A VRs (spliced (backTo pos (starEach es env))) l Φ Ψ
structure Ex (B : zan) (A : Around) (env : Env) (l : Led) (ss : List Stmt) (Φ : Fl → Led → Prop) (Ψ : XQ) : Prop where
 mk ::
 go : Tr B A FR (execs ss env) l Φ Ψ
noncomputable def Ld (B : zan) (A : Around) (env : Env) (l : Led) (x : Str) (Φ : EQ) (Ψ : XQ) : Prop := Tr B A VR (loadName env x) l Φ Ψ
structure Ex1 (B : zan) (A : Around) (env : Env) (l : Led) (st : Stmt) (Φ : Fl → Led → Prop) (Ψ : XQ) : Prop where
 mk ::
 go : Tr B A FR (exec st env) l Φ Ψ
noncomputable abbrev KEv (B : zan) (A : Around) (env : Env) (Ψ : XQ) (e : Expr) (K : AV → EQ) (a : AV) (l : Led) : Prop := Ev B A env l e (K a) Ψ
noncomputable abbrev EvL (B : zan) (A : Around) (env : Env) (Ψ : XQ) (Φ : EQ) (e : Expr) (l : Led) : Prop := Ev B A env l e Φ Ψ
noncomputable abbrev BvL (B : zan) (A : Around) (env : Env) (Ψ : XQ) (Φ : Bool → Led → Prop) (e : Expr) (l : Led) : Prop := Bv B A env l e Φ Ψ
noncomputable abbrev ExL (B : zan) (A : Around) (env : Env) (Ψ : XQ) (Θ : Fl → Led → Prop) (ss : List Stmt) (l : Led) : Prop := Ex B A env l ss Θ Ψ
noncomputable abbrev znY (P Q : Led → Prop) (b : Bool) (l : Led) : Prop := if b then P l else Q l
noncomputable abbrev zrK (Φ : Bool → Led → Prop) (b : Bool) (l : Led) : Prop := Φ (!b) l
noncomputable abbrev zqO (Φ : List AV → Led → Prop) (a : AV) (as : List AV) (l : Led) : Prop := Φ (a :: as) l
noncomputable abbrev KEs (B : zan) (A : Around) (env : Env) (Ψ : XQ) (pos : Pos) (r : List Expr) (Φ : List AV → Led → Prop) (a : AV) (l : Led) : Prop := Es B A env pos l r (zqO Φ a) Ψ
noncomputable abbrev zrH (Φ : EQ) (as : List AV) (l : Led) : Prop := as.length ≤ sizeLine ∧ Φ (.tup as) l
noncomputable abbrev zrL (Φ : EQ) (as : List AV) (l : Led) : Prop := as.length ≤ sizeLine ∧ ∀ a, Φ (.ref a) ((a, .list as) :: l)
noncomputable abbrev zrJ (Θ : Fl → Led → Prop) (a : AV) (l : Led) : Prop := Θ (.ret a) l
noncomputable abbrev zpL (Θ : Fl → Led → Prop) (_ : AV) (l : Led) : Prop := Θ .next l
noncomputable abbrev KN (Θ : Fl → Led → Prop) (_ : Unit) (l : Led) : Prop := Θ .next l
noncomputable abbrev KNx (Θ : Fl → Led → Prop) (l : Led) : Prop := Θ .next l
theorem znl {P Q : Prop} (h : if true = true then P else Q) : P := h
theorem zpY {P Q : Prop} (h : if false = true then P else Q) : Q := h
section
variable {B : zan} {A : Around} {env : Env} {Ψ : XQ} {l : Led}
theorem Res.el {α β : Type} {R : Heap → α → β → Prop} {h0 : Heap} {Φ : β → Led → Prop} {v : α} {s' : Shared} {G : Prop} (q : Res B R h0 Φ v s') (k : Ext h0 s'.heap → ∀ b l', R s'.heap v b → zaB B l' s' → Φ b l' → G) : G := q.2.elim fun b q1 => q1.elim fun l' q2 => k q.1 b l' q2.1 q2.2.1 q2.2.2
theorem Exn.el {h0 : Heap} {v : Value} {s' : Shared} {G : Prop} (q : Exn B h0 Ψ v s') (k : Ext h0 s'.heap → ∀ X l', v = .ref X.e → (X.e, zaa.exc X.C X.d) ∈ l' → znI B.h₀ s'.heap X.e → zaB B l' s' → Ψ X l' → G) : G := q.2.elim fun X q1 => q1.elim fun l' q2 => k q.1 X l' q2.1 q2.2.1 q2.2.2.1 q2.2.2.2.1 q2.2.2.2.2
theorem Res.ext {α β : Type} {R : Heap → α → β → Prop} {h0 h1 : Heap} {Φ : β → Led → Prop} {v : α} {s' : Shared} (x : Ext h0 h1) (r : Res B R h1 Φ v s') : Res B R h0 Φ v s' := ⟨x.trans r.1, r.2⟩
theorem Exn.ext {h0 h1 : Heap} {v : Value} {s' : Shared} (x : Ext h0 h1) (r : Exn B h1 Ψ v s') : Exn B h0 Ψ v s' := ⟨x.trans r.1, r.2⟩
theorem Res.here {α β : Type} {R : Heap → α → β → Prop} {Φ : β → Led → Prop} {v : α} {b : β} {s : Shared} (r : R s.heap v b) (G : zaB B l s) (h : Φ b l) : Res B R s.heap Φ v s := ⟨Ext.refl _, b, l, r, G, h⟩
theorem Res.tok {α β : Type} {R : Heap → α → β → Prop} {Φ : β → Led → Prop} {v : α} {b : β} {s : Shared} {n : Nat} (r : R s.heap v b) (G : zaB B l s) (h : Φ b l) : Res B R s.heap Φ v { s with toks := n } := ⟨Ext.refl _, b, l, r, G.toks n, h⟩
theorem zaE {α β : Type} {R : Heap → α → β → Prop} {t : Sem α} {h0 : Heap} {s : Shared} {Φ : β → Led → Prop} {Q : α → Shared → Prop} {E : Value → Shared → Prop}
  (h : wpAny (model B.prog B.w) A t (Res B R s.heap Φ) (Exn B s.heap Ψ) s) (x : Ext h0 s.heap)
  (hq : ∀ v b l1 s1, Ext s.heap s1.heap → R s1.heap v b → zaB B l1 s1 → Φ b l1 → Q v s1) (he : ∀ v s1, Exn B h0 Ψ v s1 → E v s1) : wpAny (model B.prog B.w) A t Q E s :=
 wpAny_mono h (fun v s1 q0 => Res.el q0 fun x1 b l1 r G1 f => hq v b l1 s1 x1 r G1 f) (fun v s1 e => he v s1 (e.ext x))
theorem Tr.mono {α β : Type} {R : Heap → α → β → Prop} {t : Sem α} {Φ Φ' : β → Led → Prop} {Ψ' : XQ} (h : Tr B A R t l Φ Ψ) (hq : ∀ b l', Φ b l' → Φ' b l') (hx : ∀ X l', Ψ X l' → Ψ' X l') : Tr B A R t l Φ' Ψ' :=
 fun s G => wpAny_mono (h s G) (fun _ _ q0 => Res.el q0 fun x b l' r G' f => ⟨x, b, l', r, G', hq _ _ f⟩) fun _ _ q0 => Exn.el q0 fun x X l' e m t G' f => ⟨x, X, l', e, m, t, G', hx _ _ f⟩
theorem Tr.sub {α β : Type} {R : Heap → α → β → Prop} {t : Sem α} {Φ : β → Led → Prop} {l' : Led} (h : Tr B A R t l' Φ Ψ) (hs : l'.Sublist l) : Tr B A R t l Φ Ψ := fun s G => h s (G.sub hs)
theorem Tr.perm {α β : Type} {R : Heap → α → β → Prop} {t : Sem α} {Φ : β → Led → Prop} {l' : Led} (h : Tr B A R t l' Φ Ψ) (hs : l'.Perm l) : Tr B A R t l Φ Ψ := fun s G => h s (G.perm hs)
variable {pos : Pos} {k : Int} {Φ : EQ}
theorem zmz {i : Int} {k} (h : Φ (.int i) l) : Ev B A env l (.Constant (.int i) k pos) Φ Ψ := .mk <| fun _ G => wpAny_Constant_int (.tok .int G h)
theorem zoF {x : Str} {k} (h : Φ (.str x) l) : Ev B A env l (.Constant (.str x) k pos) Φ Ψ := .mk <| fun _ G => wpAny_Constant_str (.tok .str G h)
theorem zkP {b : Bool} {k} (h : Φ (.bool b) l) : Ev B A env l (.Constant (.bool b) k pos) Φ Ψ := .mk <| fun _ G => wpAny_Constant_bool (.here .bool G h)
theorem znt {k} (h : Φ .none l) : Ev B A env l (.Constant .none k pos) Φ Ψ := .mk <| fun _ G => wpAny_Constant_none (.here .none G h)
theorem zlX {b : List UInt8} {k} (h : Φ (.bytes b.toArray) l) : Ev B A env l (.Constant (.bytes b) k pos) Φ Ψ := .mk <| fun s G => by
 show wpAny _ _ (mkTextBytes b.toArray) _ _ s
 exact wpAny_mkTextBytes (.tok .bytes G h)
theorem zh9 : ∀ {m : List (Str × Option AV)}, (m.map (·.1)).Nodup → ∀ {x : Str} {v : Option AV}, (x, v) ∈ m → zgJ m x = v
 | p :: r, nd, x, v, hm => by
  rw [List.map_cons, List.nodup_cons] at nd
  unfold zgJ
  rcases List.mem_cons.mp hm with rfl | hm
  ·simp
  ·have : ¬ x = p.1 := fun e => nd.1 (e ▸ List.mem_map_of_mem hm)
   rwa [if_neg this]; exact zh9 nd.2 hm
theorem zeJ {h : Heap} {v : Option Value} {a : AV} (r : zjt h v (some a)) : ∃ u, v = some u ∧ VR h u a := by
 cases v with
 | none => exact r.elim
 | some u => exact (iEA u rfl r)
theorem zkh {s : Shared} {L : Addr} {m : List (Str × Option AV)} {x : Str} {v : AV} (G : zaB B l s) (hm : (L, zaa.ns m) ∈ l) (hv : (x, some v) ∈ m) : ∃ mm u, s.heap.Ns L mm ∧ mm x = some u ∧ VR s.heap u v := by
 obtain ⟨nd, mm, hn, hr⟩ := G.cells _ hm
 have := hr x
 rw [zh9 nd hv] at this
 obtain ⟨u, e, r⟩ := zeJ this
 exact (zkD mm u hn e r)
theorem zlW {x : Str} {L : Addr} {m : List (Str × Option AV)} {v : AV} (hL : env.locals = L) (hm : (L, zaa.ns m) ∈ l) (hv : (x, some v) ∈ m) (h : Φ v l)
  (hk : env.scope.kind = .function) (hl : env.kindOf x = some .local) (hd : (x == ("__debug__" : Str)) = false) : Ev B A env l (.Name x pos) Φ Ψ := .mk <| fun s G => by
 obtain ⟨mm, u, hn, e, r⟩ := zkh G hm hv
 exact wpAny_Name (wpAny_loadName_local hk hl (hL ▸ hn) e (.here r G h)) hd
theorem zjc {x : Str} {L : Addr} {m : List (Str × Option AV)} {v : AV} (hL : env.locals = L) (hm : (L, zaa.ns m) ∈ l) (hv : (x, some v) ∈ m) (h : Φ v l)
  (hk : env.scope.kind = .function) (hl : env.kindOf x = some .local) : Ld B A env l x Φ Ψ := fun s G => by
 obtain ⟨mm, u, hn, e, r⟩ := zkh G hm hv
 exact wpAny_loadName_local hk hl (hL ▸ hn) e (.here r G h)
theorem zkO {x : Str} {v : Value} {a : AV} (hg : nsIn B.K mainGlobals x = some (some v)) (hr : ∀ h, B.K.In h → VR h v a) (h : Φ a l) (hk : env.scope.kind = .function) (hl : env.kindOf x = some .globalImplicit)
  (he : env.globals = mainGlobals) (hd : (x == ("__debug__" : Str)) = false) : Ev B A env l (.Name x pos) Φ Ψ := .mk <| fun s G => by
 refine wpAny_Name ?_ hd
 rwa [loadName_read hk hl]
 unfold loadGlobal
 rwa [he]
 refine wpAny_bind ((looks_nsIn G.kin hg).here ?_)
 exact wpAny_pure (.here (hr _ G.kin) G h)
theorem znw {x : Str} {c : Addr} {v : AV} (hc : env.cells.lookup x = some c) (hm : (c, zaa.cell (some v)) ∈ l) (h : Φ v l)
  (hk : env.scope.kind = .function) (hl : env.kindOf x = some .cell) (hd : (x == ("__debug__" : Str)) = false) : Ev B A env l (.Name x pos) Φ Ψ := .mk <| fun s G => by
 obtain ⟨o, ov, e, hd', r⟩ := G.cells _ hm
 obtain ⟨u, rfl, r⟩ := zeJ r
 exact wpAny_Name (wpAny_loadName_cell hk hl hc ⟨o, e, hd'⟩ (.here r G h)) hd
theorem znv {x : Str} {c : Addr} {v : AV} (hc : env.cells.lookup x = some c) (hm : (c, zaa.cell (some v)) ∈ l) (h : Φ v l)
  (hk : env.scope.kind = .function) (hl : env.kindOf x = some .free) (hd : (x == ("__debug__" : Str)) = false) (hn : (x == ("__classdict__" : Str)) = false) : Ev B A env l (.Name x pos) Φ Ψ := .mk <| fun s G => by
 obtain ⟨o, ov, e, hd', r⟩ := G.cells _ hm
 obtain ⟨u, rfl, r⟩ := zeJ r
 exact wpAny_Name (wpAny_loadName_free hk hl hc ⟨o, e, hd'⟩ (.here r G h) hn) hd
noncomputable def Op2 (B : zan) (A : Around) (f : Value → Value → Sem Value) (a b : AV) (l : Led) (Φ : EQ) (Ψ : XQ) : Prop :=
 ∀ s v u, zaB B l s → VR s.heap v a → VR s.heap u b → wpAny (model B.prog B.w) A (f v u) (Res B VR s.heap Φ) (Exn B s.heap Ψ) s
noncomputable abbrev KOp (B : zan) (A : Around) (Ψ : XQ) (f : Value → Value → Sem Value) (Φ : EQ) (a b : AV) (l : Led) : Prop := Op2 B A f a b l Φ Ψ
theorem zrf {e1 e2 : Expr} {op : Operator} (h : Ev B A env l e1 (KEv B A env Ψ e2 (KOp B A Ψ (binaryOp op) Φ)) Ψ) : Ev B A env l (.BinOp e1 op e2 pos) Φ Ψ := .mk <| fun s G =>
 wpAny_BinOp (zaE (h.go s G) (Ext.refl _) (fun v a l1 s1 x1 r1 G1 h1 => zaE (h1.go s1 G1) x1 (fun u b l2 s2 x2 r2 G2 h2 =>
  wpAny_mono (h2 s2 v u G2 (r1.mono x2) r2) (fun _ _ r => r.ext (x1.trans x2)) fun _ _ r => r.ext (x1.trans x2)) fun _ _ e => e) fun _ _ e => e)
theorem zre {e1 e2 : Expr} {op : CmpOp} (h : Ev B A env l e1 (KEv B A env Ψ e2 (KOp B A Ψ (compareOp op) Φ)) Ψ) (hm : behindInMarks op e2 = false := by walk_at "r") : Ev B A env l (.Compare e1 [op] [e2] pos) Φ Ψ := .mk <| fun s G =>
 wpAny_Compare1 (zaE (h.go s G) (Ext.refl _) (fun v a l1 s1 x1 r1 G1 h1 => zaE (h1.go s1 G1) x1 (fun u b l2 s2 x2 r2 G2 h2 =>
  wpAny_mono (h2 s2 v u G2 (r1.mono x2) r2) (fun _ _ r => r.ext (x1.trans x2)) fun _ _ r => r.ext (x1.trans x2)) fun _ _ e => e) fun _ _ e => e) hm
noncomputable def Th (B : zan) (A : Around) (a : AV) (l : Led) (Φ : Bool → Led → Prop) (Ψ : XQ) : Prop :=
 ∀ s v, zaB B l s → VR s.heap v a → wpAny (model B.prog B.w) A (truthy v) (Res B BR s.heap Φ) (Exn B s.heap Ψ) s
noncomputable abbrev KTh (B : zan) (A : Around) (Ψ : XQ) (Φ : Bool → Led → Prop) (a : AV) (l : Led) : Prop := Th B A a l Φ Ψ
theorem zmO {b : Bool} {Φ : Bool → Led → Prop} (h : Φ b l) : Th B A (.bool b) l Φ Ψ := fun s v G r => by
 obtain rfl := r.inv; exact wpAny_truthy_bool (.here rfl G h)
theorem zrh {e1 e2 : Expr} {op : CmpOp} {Φ : Bool → Led → Prop} (h : Ev B A env l e1 (KEv B A env Ψ e2 (KOp B A Ψ (compareOp op) (KTh B A Ψ Φ))) Ψ) (hm : behindInMarks op e2 = false := by walk_at "r") : Bv B A env l (.Compare e1 [op] [e2] pos) Φ Ψ := .mk <| fun s G =>
 wpAny_isTrue_Compare1 (zaE (h.go s G) (Ext.refl _) (fun v a l1 s1 x1 r1 G1 h1 => zaE (h1.go s1 G1) x1 (fun u b l2 s2 x2 r2 G2 h2 =>
  zaE (h2 s2 v u G2 (r1.mono x2) r2) (x1.trans x2) (fun c c' l3 s3 x3 r3 G3 h3 => wpAny_mono (h3 s3 c G3 r3) (fun _ _ r => r.ext ((x1.trans x2).trans x3)) fun _ _ r => r.ext ((x1.trans x2).trans x3)) fun _ _ e => e) fun _ _ e => e) fun _ _ e => e) hm
theorem zcq {e : Expr} {Φ : Bool → Led → Prop} (h : Ev B A env l e (KTh B A Ψ Φ) Ψ) (he : ∀ whole, isTrue e env whole = (do let v ← whole; standAt e.pos; holding [v] (truthy v))) : Bv B A env l e Φ Ψ := .mk <| fun s G =>
 wpAny_isTrue_value (zaE (h.go s G) (Ext.refl _) (fun v a l1 s1 x1 r1 G1 h1 => wpAny_mono (h1 s1 v G1 r1) (fun _ _ r => r.ext x1) fun _ _ r => r.ext x1) fun _ _ e => e) (he _)
theorem zrg {e : Expr} {Φ : Bool → Led → Prop} (h : Bv B A env l e (zrK Φ) Ψ) : Bv B A env l (.UnaryOp .Not e pos) Φ Ψ := .mk <| fun s G =>
 wpAny_isTrue_Not (wpAny_mono (h.go s G) (fun b s1 q0 => Res.el q0 fun x b' l' r G' f => ⟨x, !b', l', by rwa [show b = b' from r]; rfl, G', f⟩) fun _ _ e => e)
theorem zrz {t e1 e2 : Expr} (h : Bv B A env l t (znY (EvL B A env Ψ Φ e1) (EvL B A env Ψ Φ e2)) Ψ) : Ev B A env l (.IfExp t e1 e2 pos) Φ Ψ := .mk <| fun s G =>
 wpAny_IfExp (zaE (h.go s G) (Ext.refl _) (fun b b' l1 s1 x1 r1 G1 h1 => by
  rwa [show b = b' from r1]
  cases b' with
  | true => exact wpAny_mono ((znl h1).go s1 G1) (fun _ _ r => r.ext x1) fun _ _ r => r.ext x1
  | false => exact wpAny_mono ((zpY h1).go s1 G1) (fun _ _ r => r.ext x1) fun _ _ r => r.ext x1) fun _ _ e => e)
theorem zrB {t e1 e2 : Expr} {Φ : Bool → Led → Prop} (h : Bv B A env l t (znY (BvL B A env Ψ Φ e1) (BvL B A env Ψ Φ e2)) Ψ) : Bv B A env l (.IfExp t e1 e2 pos) Φ Ψ := .mk <| fun s G => by
 show wpAny _ _ (isTrue (.IfExp t e1 e2 pos) env _) _ _ s
 have : isTrue (.IfExp t e1 e2 pos) env (eval (.IfExp t e1 e2 pos) env) = (do if ← isTrue t env (eval t env) then isTrue e1 env (eval e1 env) else isTrue e2 env (eval e2 env)) := by walk_at "r"
 rwa [this]
 refine wpAny_bind (zaE (h.go s G) (Ext.refl _) (fun b b' l1 s1 x1 r1 G1 h1 => ?_) fun _ _ e => e)
 rwa [show b = b' from r1]
 cases b' with
 | true => exact wpAny_mono ((znl h1).go s1 G1) (fun _ _ r => r.ext x1) fun _ _ r => r.ext x1
 | false => exact wpAny_mono ((zpY h1).go s1 G1) (fun _ _ r => r.ext x1) fun _ _ r => r.ext x1
theorem zoH {Φ : List AV → Led → Prop} (h : Φ [] l) : Es B A env pos l [] Φ Ψ := .mk <| fun s G => Calls.spliced_nil (.here .nil G h)
noncomputable def zmp : Expr → Bool
 | .Starred .. => false
 | _ => true
theorem zi2 {e : Expr} {r : List Expr} {env : Env} (h : zmp e = true) : starEach (e :: r) env = (false, eval e env) :: starEach r env := by
 cases e <;> first | walk_at "r" | exact xB h
theorem zby {e : Expr} {r : List Expr} {Φ : List AV → Led → Prop} (h : Ev B A env l e (KEs B A env Ψ pos r Φ) Ψ)
  (hs : zmp e = true := by walk_at "r") : Es B A env pos l (e :: r) Φ Ψ := .mk <| fun s G => by
 rwa [zi2 hs]
 exact Calls.spliced_cons (zaE (h.go s G) (Ext.refl _) (fun v a l1 s1 x1 r1 G1 h1 => zaE (h1.go s1 G1) x1 (fun vs as l2 s2 x2 r2 G2 h2 =>
  ⟨x1.trans x2, _, _, .cons (r1.mono x2) r2, G2, h2⟩) fun _ _ e => e) fun _ _ e => e)
theorem zfB {h : Heap} {vs : List Value} : zfn (h.push { cls := .type "tuple", data := .seq vs.toArray }) h.objs.size vs.toArray := ⟨0, Heap.get?_push_size _ rfl⟩
theorem zkM {es : List Expr} {k} (h : Es B A env pos l es (zrH Φ) Ψ) : Ev B A env l (.Tuple es k pos) Φ Ψ := .mk <| fun s G =>
 wpAny_Tuple_spliced (zaE (h.go s G) (Ext.refl _) (fun vs as l1 s1 x1 r1 G1 h1 => by
  have k : ∀ b o, s1.heap.get? b = some o → (s1.heap.push { cls := .type "tuple", data := .seq vs.toArray }).get? b = some o := fun _ _ e => Heap.get?_push_of_some _ e
  exact ⟨by rwa [r1.len]; exact h1.1, x1.trans (Ext.of_keeps k), _, _, .tup zfB (by simpa using r1.mono (Ext.of_keeps k)), G1.push _, h1.2⟩) fun _ _ e => e)
theorem zqv {es : List Expr} (h : Es B A env pos l es (zrL Φ) Ψ) : Ev B A env l (.List es pos) Φ Ψ := .mk <| fun s G =>
 wpAny_List_spliced (zaE (h.go s G) (Ext.refl _) (fun vs as l1 s1 x1 r1 G1 h1 => by
  have k : ∀ b o, s1.heap.get? b = some o → (s1.heap.push { cls := .type "list", data := .seq vs.toArray }).get? b = some o := fun _ _ e => Heap.get?_push_of_some _ e
  have hn : s1.heap.get? s1.heap.objs.size = none := by
   cases q : s1.heap.get? s1.heap.objs.size with
   | none => rfl
   | some o => exact absurd (Heap.lt_size q) (Nat.lt_irrefl _)
  have c : za2 B (s1.heap.push { cls := .type "list", data := .seq vs.toArray }) s1.heap.objs.size (.list as) := ⟨vs.toArray, 0, Heap.get?_push_size _ rfl, by simpa using r1.mono (Ext.of_keeps k)⟩
  exact ⟨by rwa [r1.len]; exact h1.1, x1.trans (Ext.of_keeps k), _, _, .ref, G1.add k hn c s1.toks, h1.2 _⟩) fun _ _ e => e)
variable {Θ : Fl → Led → Prop}
theorem zrb (h : Θ .next l) : Ex B A env l [] Θ Ψ := .mk <| fun s G => wpAny_pure (.here .next G h)
theorem zns {st : Stmt} {r : List Stmt} (h : Ex1 B A env l st (fun f l1 => match f with | .next => Ex B A env l1 r Θ Ψ | f => Θ f l1) Ψ) : Ex B A env l (st :: r) Θ Ψ := .mk <| fun s G =>
 wpAny_execs_cons (zaE (h.go s G) (Ext.refl _) (fun f f' l1 s1 x1 r1 G1 h1 => by
  cases r1 with
  | next => exact wpAny_mono (h1.go s1 G1) (fun _ _ r => r.ext x1) fun _ _ r => r.ext x1
  | brk => exact ⟨x1, _, _, .brk, G1, h1⟩
  | cont => exact ⟨x1, _, _, .cont, G1, h1⟩
  | ret r => exact ⟨x1, _, _, .ret r, G1, h1⟩) fun _ _ e => e)
theorem zrW {t : Expr} {b1 b2 : List Stmt} (h : Bv B A env l t (znY (ExL B A env Ψ Θ b1) (ExL B A env Ψ Θ b2)) Ψ) : Ex1 B A env l (.If t b1 b2 pos) Θ Ψ := .mk <| fun s G =>
 wpAny_If (zaE (h.go s G) (Ext.refl _) (fun b b' l1 s1 x1 r1 G1 h1 => by
  rwa [show b = b' from r1]
  cases b' with
  | true => exact wpAny_mono ((znl h1).go s1 G1) (fun _ _ r => r.ext x1) fun _ _ r => r.ext x1
  | false => exact wpAny_mono ((zpY h1).go s1 G1) (fun _ _ r => r.ext x1) fun _ _ r => r.ext x1) fun _ _ e => e)
theorem zp8 {e : Expr} (h : Ev B A env l e (zrJ Θ) Ψ) : Ex1 B A env l (.Return (some e) pos) Θ Ψ := .mk <| fun s G =>
 wpAny_Return_some (wpAny_mono (h.go s G) (fun _ _ q0 => Res.el q0 fun x a l1 r G1 f => ⟨x, _, l1, .ret r, G1, f⟩) fun _ _ e => e)
theorem zqR (h : Θ .cont l) : Ex1 B A env l (.Continue pos) Θ Ψ := .mk <| fun s G => wpAny_Continue (.here .cont G h)
theorem zn2 {e : Expr} (h : Ev B A env l e (zpL Θ) Ψ) (hi : interactive env = false := by rfl) (hs : swapsWith e none pos.line env = pure false := by rfl) : Ex1 B A env l (.Expr e pos) Θ Ψ := .mk <| fun s G =>
 wpAny_Expr_any (wpAny_mono (h.go s G) (fun _ _ q0 => Res.el q0 fun x a l1 r G1 f => ⟨x, _, l1, .next, G1, f⟩) fun _ _ e => e) hi hs
inductive UpN {β : Type} : List (Str × β) → Str → β → (β → List (Str × β)) → Prop
 | head {x : Str} {v : β} {r : List (Str × β)} : UpN ((x, v) :: r) x v (fun v' => (x, v') :: r)
 | tail {x : Str} {v : β} {p : Str × β} {r : List (Str × β)} {f : β → List (Str × β)} : UpN r x v f → UpN (p :: r) x v (fun v' => p :: f v')
theorem nz1 {β : Type} {x : Str} {y : β} {a : Str × β} {r : List (Str × β)} : UpN (a :: (x, y) :: r) x y (fun k => a :: (x, k) :: r) := .tail (.head)
theorem nz2 {β : Type} {x : Str} {y : β} {a b : Str × β} {r : List (Str × β)} : UpN (a :: b :: (x, y) :: r) x y (fun k => a :: b :: (x, k) :: r) := .tail (.tail (.head))
theorem nz3 {β : Type} {x : Str} {y : β} {a b c : Str × β} {r : List (Str × β)} : UpN (a :: b :: c :: (x, y) :: r) x y (fun k => a :: b :: c :: (x, k) :: r) := .tail (.tail (.tail (.head)))
theorem nz4 {β : Type} {x : Str} {y : β} {a b c d : Str × β} {r : List (Str × β)} : UpN (a :: b :: c :: d :: (x, y) :: r) x y (fun k => a :: b :: c :: d :: (x, k) :: r) := .tail (.tail (.tail (.tail (.head))))
theorem nz5 {β : Type} {x : Str} {y : β} {a b c d e : Str × β} {r : List (Str × β)} : UpN (a :: b :: c :: d :: e :: (x, y) :: r) x y (fun k => a :: b :: c :: d :: e :: (x, k) :: r) := .tail (.tail (.tail (.tail (.tail (.head)))))
theorem nz6 {β : Type} {x : Str} {y : β} {a b c d e f : Str × β} {r : List (Str × β)} : UpN (a :: b :: c :: d :: e :: f :: (x, y) :: r) x y (fun k => a :: b :: c :: d :: e :: f :: (x, k) :: r) := .tail (.tail (.tail (.tail (.tail (.tail (.head))))))
theorem nz7 {β : Type} {x : Str} {y : β} {a b c d e f g : Str × β} {r : List (Str × β)} : UpN (a :: b :: c :: d :: e :: f :: g :: (x, y) :: r) x y (fun k => a :: b :: c :: d :: e :: f :: g :: (x, k) :: r) := .tail (.tail (.tail (.tail (.tail (.tail (.tail (.head)))))))
theorem nzt {β : Type} {x : Str} {y : β} {a b c d e f g w : Str × β} {r : List (Str × β)} {s : β → List (Str × β)} (u : UpN r x y s) : UpN (a :: b :: c :: d :: e :: f :: g :: w :: r) x y (fun k => a :: b :: c :: d :: e :: f :: g :: w :: s k) := .tail (.tail (.tail (.tail (.tail (.tail (.tail (.tail (u))))))))
theorem UpN.keys {β : Type} {m : List (Str × β)} {x : Str} {v : β} {f : β → List (Str × β)} (u : UpN m x v f) (v' : β) : (f v').map (·.1) = m.map (·.1) := by
 induction u with
 | head => rfl
 | tail _ ih => simp only [List.map_cons, ih]
theorem UpN.mem {β : Type} {m : List (Str × β)} {x : Str} {v : β} {f : β → List (Str × β)} (u : UpN m x v f) : (x, v) ∈ m := by
 induction u with
 | head => exact .head _
 | tail _ ih => exact .tail _ ih
theorem UpN.at {m : List (Str × Option AV)} {x : Str} {v : Option AV} {f : Option AV → List (Str × Option AV)} (u : UpN m x v f) (nd : (m.map (·.1)).Nodup) (v' : Option AV) (y : Str) : zgJ (f v') y = if y = x then v' else zgJ m y := by
 induction u with
 | head =>
  rename_i x v r
  unfold zgJ
  by_cases e : y = x <;> simp [e]
 | tail u ih =>
  rw [List.map_cons, List.nodup_cons] at nd
  rename_i x v p r f
  unfold zgJ
  by_cases e : y = p.1
  ·rwa [if_pos e, if_pos e]
   have : ¬ y = x := fun q => nd.1 (by rwa [← e, q]; exact List.mem_map_of_mem (f := (·.1)) u.mem)
   rwa [if_neg this]
  ·rwa [if_neg e, if_neg e]; exact ih nd.2
theorem Up.ext {l : Led} {a : Addr} {c : zaa} {f : zaa → Led} (_u : Up l a c f) : True := trivial
theorem zor {L : Addr} {m : List (Str × Option AV)} {x : Str} {v : Option AV} {f : Option AV → List (Str × Option AV)} {g : zaa → Led} {s : Shared} {h' : Heap} {u : Value} {a : AV} {n : Nat} (G : zaB B l s) (hu : Up l L (.ns m) g) (hx : UpN m x v f)
  (r : VR s.heap u a) {mm : Str → Option Value} (hn : s.heap.Ns L mm) (hn' : h'.Ns L (fun y => if y = x then some u else mm y)) (hs : Heap.SameBut L s.heap h') : zaB B (g (.ns (f (some a)))) { s with heap := h', toks := n } ∧ Ext s.heap h' := by
 refine G.turn hu (fun b hb o e => (hs.2 b hb).trans e) (fun c E => ?_) n
 obtain ⟨nd, m1, hn1, hr⟩ := c
 refine ⟨by rwa [hx.keys]; exact nd, _, hn', fun y => ?_⟩
 rwa [hx.at nd]
 have e1 : m1 = mm := by
  obtain ⟨o, es, ep, e, d, _, q⟩ := hn
  obtain ⟨o1, es1, ep1, e1, d1, _, q1⟩ := hn1
  rw [e] at e1; cases e1
  rw [d] at d1; cases d1
  funext z; rwa [← q, ← q1]
 subst e1
 by_cases q : y = x
 ·rwa [if_pos q, if_pos q]; exact r.mono E
 ·rwa [if_neg q, if_neg q]; exact (hr y).mono E
noncomputable def St (B : zan) (A : Around) (env : Env) (x : Str) (a : AV) (l : Led) (Φ : Unit → Led → Prop) (Ψ : XQ) : Prop :=
 ∀ s u, zaB B l s → VR s.heap u a → wpAny (model B.prog B.w) A (storeName env x u) (Res B UR s.heap Φ) (Exn B s.heap Ψ) s
noncomputable abbrev KSt (B : zan) (A : Around) (env : Env) (Ψ : XQ) (x : Str) (Φ : Unit → Led → Prop) (a : AV) (l : Led) : Prop := St B A env x a l Φ Ψ
theorem zlj {x : Str} {a : AV} {L : Addr} {m : List (Str × Option AV)} {v : Option AV} {f : Option AV → List (Str × Option AV)} {g : zaa → Led} {Φ : Unit → Led → Prop} (hL : env.locals = L) (hu : Up l L (.ns m) g) (hx : UpN m x v f)
  (h : Φ () (g (.ns (f (some a))))) (hk : env.scope.kind = .function) (hl : env.kindOf x = some .local) : St B A env x a l Φ Ψ := fun s u G r => by
 obtain ⟨nd, mm, hn, hr⟩ := G.cells _ hu.mem
 refine wpAny_storeName_local hl (hL ▸ hn) (fun h' hn' hs => ?_) (by rwa [hk]; rfl)
 have := zor (n := s.toks + 1) G hu hx r hn (hL ▸ hn') (hL ▸ hs)
 exact ⟨this.2, (), _, trivial, this.1, h⟩
theorem zmS {x : Str} {a : AV} {c : Addr} {v : Option AV} {g : zaa → Led} {Φ : Unit → Led → Prop} (hc : env.cells.lookup x = some c) (hu : Up l c (.cell v) g)
  (h : Φ () (g (.cell (some a)))) (hk : env.scope.kind = .function) (hl : env.kindOf x = some .cell) : St B A env x a l Φ Ψ := fun s u G r => by
 obtain ⟨o, ov, e, hd, hr⟩ := G.cells _ hu.mem
 refine wpAny_storeName_cell hk hl hc ⟨o, e, hd⟩ (fun h' hn' hs => ?_)
 have := G.turn hu (c' := .cell (some a)) (fun b hb o e => (hs.2 b hb).trans e) (fun _ E => by
  obtain ⟨o', e', hd'⟩ := hn'
  exact ⟨o', _, e', hd', r.mono E⟩) s.toks
 exact ⟨this.2, (), _, trivial, this.1, h⟩
theorem zhS {x : Str} {p : Pos} {e : Expr} (h : Ev B A env l e (KSt B A env Ψ x (KN Θ)) Ψ)
  (hs : swapsWith e (some (.Name x p)) pos.line env = pure false := by rfl) : Ex1 B A env l (.Assign [.Name x p] e pos) Θ Ψ := .mk <| fun s G =>
 wpAny_Assign_Name (zaE (h.go s G) (Ext.refl _) (fun v a l1 s1 x1 r1 G1 h1 => wpAny_mono (h1 s1 v G1 r1) (fun _ _ q0 => Res.el q0 fun x2 _ l2 _ G2 f => ⟨x1.trans x2, _, l2, .next, G2, f⟩) fun _ _ r => r.ext x1) fun _ _ e => e) hs
theorem zp9 {x : Str} {p : Pos} {e : Expr} {op : Operator} (h : Ld B A env l x (KEv B A env Ψ e (KOp B A Ψ (inplaceOp op) (KSt B A env Ψ x (KN Θ)))) Ψ) :
  Ex1 B A env l (.AugAssign (.Name x p) op e pos) Θ Ψ := .mk <| fun s G =>
 wpAny_AugAssign_Name (zaE (h s G) (Ext.refl _) (fun v a l1 s1 x1 r1 G1 h1 => zaE (h1.go s1 G1) x1 (fun u b l2 s2 x2 r2 G2 h2 =>
  zaE (h2 s2 v u G2 (r1.mono x2) r2) (x1.trans x2) (fun c c' l3 s3 x3 r3 G3 h3 =>
   wpAny_mono (h3 s3 c G3 r3) (fun _ _ q0 => Res.el q0 fun x4 _ l4 _ G4 f => ⟨((x1.trans x2).trans x3).trans x4, _, l4, .next, G4, f⟩) fun _ _ r => r.ext ((x1.trans x2).trans x3)) fun _ _ e => e) fun _ _ e => e) fun _ _ e => e)
theorem zqV {i j : Int} (h : Φ (.int (i + j)) l) : Op2 B A (binaryOp .Add) (.int i) (.int j) l Φ Ψ := fun s v u G r1 r2 => by
 obtain ⟨_, rfl⟩ := r1.inv; obtain ⟨_, rfl⟩ := r2.inv; exact PyProof.Rows.add_int (.tok .int G h)
theorem zqU {i j : Int} (h : Φ (.int (i - j)) l) : Op2 B A (binaryOp .Sub) (.int i) (.int j) l Φ Ψ := fun s v u G r1 r2 => by
 obtain ⟨_, rfl⟩ := r1.inv; obtain ⟨_, rfl⟩ := r2.inv; exact PyProof.Rows.sub_int (.tok .int G h)
theorem zcP {i j : Int} (hm : IntMulOk i j) (h : Φ (.int (i * j)) l) : Op2 B A (binaryOp .Mult) (.int i) (.int j) l Φ Ψ := fun s v u G r1 r2 => by
 obtain ⟨_, rfl⟩ := r1.inv; obtain ⟨_, rfl⟩ := r2.inv; exact PyProof.Rows.mul_int (.tok .int G h) hm
theorem zfz {i j : Int} (hj : j ≠ 0) (h : Φ (.int (i.fmod j)) l) : Op2 B A (binaryOp .Mod) (.int i) (.int j) l Φ Ψ := fun s v u G r1 r2 => by
 obtain ⟨_, rfl⟩ := r1.inv; obtain ⟨_, rfl⟩ := r2.inv; exact PyProof.Rows.mod_int' hj (.tok .int G h)
theorem zke {i j : Int} (hj : j ≠ 0) (hp : Builtin.divisionGoesByPylong i j = false) (h : Φ (.int (i.fdiv j)) l) : Op2 B A (binaryOp .FloorDiv) (.int i) (.int j) l Φ Ψ := fun s v u G r1 r2 => by
 obtain ⟨_, rfl⟩ := r1.inv; obtain ⟨_, rfl⟩ := r2.inv; exact PyProof.Rows.floordiv_int hj (.tok .int G h) (.inl hp)
theorem zdZ {i j : Int} (hn : 0 ≤ j) (hz : (Builtin.Int.intBits i : Int) * j ≤ 2 ^ 27) (h : Φ (.int (i ^ j.toNat)) l) : Op2 B A (binaryOp .Pow) (.int i) (.int j) l Φ Ψ := fun s v u G r1 r2 => by
 obtain ⟨_, rfl⟩ := r1.inv; obtain ⟨_, rfl⟩ := r2.inv; exact PyProof.Rows.pow_int hn hz (.tok .int G h)
theorem zrs {i j : Int} (h : Φ (.bool (decide (i < j))) l) : Op2 B A (compareOp .Lt) (.int i) (.int j) l Φ Ψ := fun s v u G r1 r2 => by
 obtain ⟨_, rfl⟩ := r1.inv; obtain ⟨_, rfl⟩ := r2.inv; exact PyProof.Rows.lt_int (.here .bool G h)
theorem zrt {i j : Int} (h : Φ (.bool (decide (i ≤ j))) l) : Op2 B A (compareOp .LtE) (.int i) (.int j) l Φ Ψ := fun s v u G r1 r2 => by
 obtain ⟨_, rfl⟩ := r1.inv; obtain ⟨_, rfl⟩ := r2.inv; exact PyProof.Rows.le_int (.here .bool G h)
theorem zru {i j : Int} (h : Φ (.bool (decide (j < i))) l) : Op2 B A (compareOp .Gt) (.int i) (.int j) l Φ Ψ := fun s v u G r1 r2 => by
 obtain ⟨_, rfl⟩ := r1.inv; obtain ⟨_, rfl⟩ := r2.inv; exact PyProof.Rows.gt_int (.here .bool G h)
theorem zrv {i j : Int} (h : Φ (.bool (decide (j ≤ i))) l) : Op2 B A (compareOp .GtE) (.int i) (.int j) l Φ Ψ := fun s v u G r1 r2 => by
 obtain ⟨_, rfl⟩ := r1.inv; obtain ⟨_, rfl⟩ := r2.inv; exact PyProof.Rows.ge_int (.here .bool G h)
theorem zi7 {i j : Int} (h : Φ (.bool (i == j)) l) : Op2 B A (compareOp .Eq) (.int i) (.int j) l Φ Ψ := fun s v u G r1 r2 => by
 obtain ⟨_, rfl⟩ := r1.inv; obtain ⟨_, rfl⟩ := r2.inv; exact PyProof.Rows.eq_int (.here .bool G h)
theorem zat {i j : Str} (h : Φ (.bool (i == j)) l) : Op2 B A (compareOp .Eq) (.str i) (.str j) l Φ Ψ := fun s v u G r1 r2 => by
 obtain ⟨_, rfl⟩ := r1.inv; obtain ⟨_, rfl⟩ := r2.inv; exact PyProof.Rows.eq_str (.here .bool G h)
end
noncomputable def FrL (l : Led) (fr : List Env) : Prop := ∀ env ∈ fr, env.scope.kind = .function ∧ ∃ L m, env.frame = some L ∧ (L, zaa.ns m) ∈ l
theorem FrL.nil {l : Led} : FrL l [] := fun _ h => nomatch h
theorem FrL.cons {l : Led} {fr : List Env} {env : Env} {L : Addr} {m : List (Str × Option AV)} (hk : env.scope.kind = .function) (hf : env.frame = some L) (hm : (L, zaa.ns m) ∈ l) (r : FrL l fr) : FrL l (env :: fr) := fun e he => by
 refine mcE he ?_ fun e he => ?_
 ·exact ⟨hk, L, m, hf, hm⟩
 ·exact r e he
theorem FrL.skip {l : Led} {fr : List Env} {x : Addr × zaa} (r : FrL l fr) : FrL (x :: l) fr := fun e he => let ⟨k, L, m, f, h⟩ := r e he; ⟨k, L, m, f, .tail _ h⟩
theorem FrL.le {l l' : Led} {fr : List Env} (r : FrL l fr) (h : ∀ p ∈ l, p ∈ l') : FrL l' fr := fun e he => let ⟨k, L, m, f, hm⟩ := r e he; ⟨k, L, m, f, h _ hm⟩
theorem Up.keep {l : Led} {a : Addr} {c c' : zaa} {f : zaa → Led} (u : Up l a c f) {p : Addr × zaa} (hp : p ∈ l) : p = (a, c) ∨ p ∈ f c' := by
 induction u with
 | head =>
  refine mcE hp ?_ fun p hp => ?_
  ·exact .inl rfl
  ·exact .inr (.tail _ hp)
 | tail _ ih =>
  rcases List.mem_cons.mp hp with rfl | hp
  ·exact .inr (.head _)
  ·exact (ih hp).imp id (.tail _)
theorem FrL.up {l : Led} {fr : List Env} {a : Addr} {c c' : zaa} {f : zaa → Led} (r : FrL l fr) (u : Up l a c f) (hc : ∀ m, c ≠ .ns m) : FrL (f c') fr := fun e he => by
 refine zld (r e he) fun k L m hf hm => ?_
 rcases u.keep (c' := c') hm with q | q
 ·cases q; exact absurd rfl (hc m)
 ·exact ⟨k, L, m, hf, q⟩
section
variable {B : zan} {A : Around} {l : Led}
theorem zaB.funFrames {s : Shared} (G : zaB B l s) {fr : List Env} (F : FrL l fr) : s.heap.FunFrames B.h₀ fr := by
 induction fr with
 | nil => trivial
 | cons env r ih =>
  refine zld (F env (.head _)) fun hk L m hf hm => ?_
  refine zn8 (G.cells _ hm) fun _ mm yq126 _ => ?_
  obtain ⟨o, es, ep, e, hd, _⟩ := yq126
  exact ⟨by rwa [hk]; decide, ⟨L, o, hf, G.apart _ hm, e, fun vs q => by rw [hd] at q; cases q⟩, ih fun e he => F e (.tail _ he)⟩
theorem FrL.addr {fr : List Env} (F : FrL l fr) {b : Addr} (hb : b ∈ fr.filterMap (·.frame)) : ∃ m, (b, zaa.ns m) ∈ l := by
 refine xEA (List.mem_filterMap.mp hb) fun env he hf => ?_
 refine zld (F env he) fun _ L m hf' hm => ?_
 rw [hf] at hf'; cases hf'
 exact ⟨m, hm⟩
noncomputable def zhO (h₀ h : Heap) (e : Addr) : Prop := ∃ o vs T oT ts, h.get? e = some o ∧ o.data = .fields vs ∧ vs[1]? = some (.ref T) ∧ T ≠ e ∧ h₀.get? T = none ∧ h.get? T = some oT ∧ oT.data = .fields ts ∧ oT.cls = .type "traceback" ∧ 3 < ts.size
theorem zhO.at {h₀ h : Heap} {e : Addr} (x : zhO h₀ h e) : znI h₀ h e :=
 x.elim fun o x => x.elim fun vs x => x.elim fun T x => x.elim fun oT x => x.elim fun ts x =>
  ⟨o, vs, .ref T, x.1, x.2.1, x.2.2.1, .inr ⟨T, oT, ts, rfl, x.2.2.2.1, x.2.2.2.2.1, x.2.2.2.2.2.1, x.2.2.2.2.2.2.1, x.2.2.2.2.2.2.2.1, x.2.2.2.2.2.2.2.2⟩⟩
theorem zhL {h : Heap} {a : Addr} {c : zaa} (x : za2 B h a c) {o : Obj} {ts : Array Value} (e : h.get? a = some o) (hd : o.data = .fields ts) (hc : o.cls = .type "traceback") : False :=
 zdx (za2.ob x) fun o' e' _ f => f (show o'.cls = _ from (congrArg Obj.cls (Option.some.inj (e'.symm.trans e))).trans hc) ts ((congrArg Obj.data (Option.some.inj (e'.symm.trans e))).trans hd)
theorem zaB.other {s : Shared} (G : zaB B l s) {T : Addr} {h' : Heap} (k : ∀ b, b ≠ T → ∀ o, s.heap.get? b = some o → h'.get? b = some o) (hT : B.h₀.get? T = none) (hl : T ∉ l.map (·.1)) (ht : ∀ xs, ¬ zfn s.heap T xs) (n : Nat) :
  zaB B l { s with heap := h', toks := n } ∧ Ext s.heap h' := by
 have E : Ext s.heap h' := fun b xs t => by
  by_cases e : b = T
  ·subst e; exact (ht _ t).elim
  ·(refine xE t fun n h1 => ?_; clear t); exact ⟨n, k b e _ h1⟩
 refine ⟨⟨fun b o e => k b (fun q => ?_) o (G.base b o e), fun p hp => ?_, G.nodup, G.apart, G.os, G.gens⟩, E⟩
 ·rw [q, hT] at e; cases e
 ·exact (G.cells p hp).keep (k _ fun q => hl (q ▸ List.mem_map_of_mem hp)) E
theorem zmk {s : Shared} (G : zaB B l s) {T : Addr} {oT : Obj} {ts : Array Value} (e : s.heap.get? T = some oT) (hd : oT.data = .fields ts) (hc : oT.cls = .type "traceback") : T ∉ l.map (·.1) ∧ ∀ xs, ¬ zfn s.heap T xs := by
 constructor
 ·intro hm
  refine xEA (List.mem_map.mp hm) fun p hp yq130 => ?_
  subst yq130
  exact zhL (G.cells p hp) e hd hc
 ·intro xs zq11
  refine xE zq11 fun n e' => ?_
  clear zq11
  have q := congrArg Obj.data (Option.some.inj (e.symm.trans e')); rw [hd] at q; cases q
theorem zeY {s : Shared} (G : zaB B l s) {e C d : Addr} (hx : (e, zaa.exc C d) ∈ l) : ∃ o vs, s.heap.get? e = some o ∧ o.data = .fields vs ∧ 5 < vs.size ∧ o.cls = .ref C ∧ o.dict = some d := by
 refine zct (G.cells _ hx) fun o vs h1 h2 h3 h4 h5 => ?_
 exact ⟨o, vs, h1, h4, h5, h2, h3⟩
theorem zlR {s : Shared} (G : zaB B l s) {e C d : Addr} (hx : (e, zaa.exc C d) ∈ l) {h' : Heap} (k : ∀ b, b ≠ e → ∀ o, s.heap.get? b = some o → h'.get? b = some o) {f : Array Value → Array Value} (hf : ∀ vs, (f vs).size = vs.size)
  (hh : ∀ o, s.heap.get? e = some o → h'.get? e = some (Obj.mapFields f o)) (n : Nat) : zaB B l { s with heap := h', toks := n } ∧ Ext s.heap h' := by
 refine zct (zeY G hx) fun o vs h1 h2 h3 h4 h5 => ?_
 have E : Ext s.heap h' := fun b xs t => by
  by_cases q : b = e
  ·subst q; exact (zbi (G.cells _ hx) t).elim
  ·(refine xE t fun n h1 => ?_; clear t); exact ⟨n, k b q _ h1⟩
 refine ⟨⟨fun b o q => k b (fun r => ?_) o (G.base b o q), fun p hp => ?_, G.nodup, G.apart, G.os, G.gens⟩, E⟩
 ·have := G.apart _ hx; rw [← r] at this; dsimp only at this; rw [q] at this; cases this
 ·by_cases q : p.1 = e
  ·have := zf9 G.nodup hp hx q
   subst this
   refine ⟨_, _, hh o h1, (Obj.cls_mapFields ..).trans h4, ?_, Obj.data_mapFields h2 _, by rwa [hf]; exact h3⟩
   obtain ⟨c, dd, dt, sl⟩ := o; dsimp only at h2 h5; subst h2; exact h5
  ·exact (G.cells p hp).keep (k _ q) E
theorem zll {s : Shared} (G : zaB B l s) {fr : List Env} (F : FrL l fr) {h' : Heap} (x : Heap.SlotsOnly (fr.filterMap (·.frame)) s.heap h') (n : Nat) : zaB B l { s with heap := h', toks := n } ∧ Ext s.heap h' := by
 have nf : ∀ b, b ∈ fr.filterMap (·.frame) → ∃ m, (b, zaa.ns m) ∈ l := fun b hb => F.addr hb
 have E : Ext s.heap h' := fun b xs t => by
  by_cases q : b ∈ fr.filterMap (·.frame)
  ·refine xE (nf b q) fun m hm => ?_
   exact (zbi (G.cells _ hm) t).elim
  ·(refine xE t fun n h1 => ?_; clear t); exact ⟨n, (x.2.1 b q).trans h1⟩
 refine ⟨⟨fun b o q => (x.2.1 b fun hb => ?_).trans (G.base b o q), fun p hp => ?_, G.nodup, G.apart, G.os, G.gens⟩, E⟩
 ·refine xE (nf b hb) fun m hm => ?_
  have := G.apart _ hm; dsimp only at this; rw [q] at this; cases this
 ·by_cases q : p.1 ∈ fr.filterMap (·.frame)
  ·refine xE (nf _ q) fun m hm => ?_
   have := zf9 G.nodup hp hm rfl
   rw [this] at *
   refine zn8 (G.cells _ hm) fun nd mm yq131 hr => ?_
   obtain ⟨o, es, ep, e, hd, r⟩ := yq131
   refine xE (x.2.2 _ _ e) fun sl e' => ?_
   exact ⟨nd, mm, ⟨_, es, ep, e', hd, r⟩, fun y => (hr y).mono E⟩
  ·exact (G.cells p hp).keep (fun o h1 => (x.2.1 _ q).trans h1) E
noncomputable def zme (B : zan) (l : Led) (h0 : Heap) (e : Addr) (s' : Shared) : Prop := Ext h0 s'.heap ∧ zaB B l s' ∧ zhO B.h₀ s'.heap e
variable {E : Value → Shared → Prop}
theorem zir {s : Shared} (G : zaB B l s) {env : Env} {outer : List Env} (hfr : A.frames = some (env :: outer)) (F : FrL l (env :: outer)) {L e C d : Addr} (hf : env.frame = some L) (hx : (e, zaa.exc C d) ∈ l) {head : Value} {hadNext : Bool} :
  wpAny (model B.prog B.w) A (do let a ← frameOf env; let pl ← entryPlaceOf L hadNext; let b ← EntryCells.newEntry head a .none (rawInt L) .none pl; setField (.ref e) 1 b) (fun _ s' => zme B l s.heap e s') E s := by
 refine wpAny_bind (wpAny_frameOf_fun hfr (G.funFrames F) hf fun h₁ hs₁ => ?_)
 refine xA (zll G F hs₁ s.toks) fun G1 E1 => ?_
 refine wpAny_bind (wpAny_entryPlaceOf fun pl hpl => ?_)
 unfold EntryCells.newEntry newFields
 refine wpAny_bind (wpAny_newObj_type ?_ (hpl.sizeOk5 _ _ _ _ _))
 have G2 := G1.push { cls := .type "traceback", dict := none, data := .fields ([head, .ref L, .none, rawInt L, .none] ++ (if pl.isEmpty then List.replicate 6 Value.none else pl)).toArray }
 have E2 : Ext h₁ (h₁.push { cls := .type "traceback", dict := none, data := .fields ([head, .ref L, .none, rawInt L, .none] ++ (if pl.isEmpty then List.replicate 6 Value.none else pl)).toArray }) := Ext.of_keeps fun _ _ q => Heap.get?_push_of_some _ q
 refine zct (zeY G2 hx) fun o vs h1 h2 h3 h4 h5 => ?_
 refine wpAny_setField h1 h2 (by walk_at "o") ?_
 have T := zlR (f := (·.setIfInBounds 1 (Value.ref h₁.objs.size))) G2 hx (h' := _) (fun b hb o q => (Heap.get?_update_other _ _ (Ne.symm hb)).trans q) (fun vs => by simp)
  (fun o' q => by rw [h1] at q; cases q; exact Heap.get?_update_self _ h1 (Obj.isFreed_of_fields (Obj.data_mapFields h2 _))) s.toks
 have hlt : e < h₁.objs.size := by
  refine zbE (zeY G1 hx) fun o vs q _ => ?_
  exact Heap.lt_size q
 have hTe : h₁.objs.size ≠ e := Nat.ne_of_gt hlt
 refine ⟨(E1.trans E2).trans T.2, T.1, ⟨_, _, h₁.objs.size, _, _, Heap.get?_update_self _ h1 (Obj.isFreed_of_fields (Obj.data_mapFields h2 _)), Obj.data_mapFields h2 _, ?_, hTe, ?_, (Heap.get?_update_other _ _ (Ne.symm hTe)).trans (Heap.get?_push_size _ rfl), rfl, rfl, ?_⟩⟩
 ·have : 1 < vs.size := by walk_at "o"
  simp [this]
 ·cases q : B.h₀.get? h₁.objs.size with
  | none => rfl
  | some o' => exact absurd (Heap.lt_size (G1.base _ _ q)) (Nat.lt_irrefl _)
 ·rcases hpl with rfl | ⟨_, _, _, _, _, _, _, rfl⟩ <;> simp
theorem zhq {s : Shared} (G : zaB B l s) {env : Env} {outer : List Env} (hfr : A.frames = some (env :: outer)) (F : FrL l (env :: outer)) {e C d : Addr} (hx : (e, zaa.exc C d) ∈ l) (ht : znI B.h₀ s.heap e) :
  wpAny (model B.prog B.w) A (noteFrame (.ref e) env) (fun _ s' => zme B l s.heap e s') E s := by
 refine zld (F env (.head _)) fun _ L m hf hm => ?_
 refine zcs ht fun o vs v h1 h2 h3 h4 => ?_
 clear ht
 unfold noteFrame
 simp only [hf]
 refine wpAny_bind (wpAny_field h1 h2 h3 ?_)
 rcases h4 with rfl | ⟨T, oT, ts, rfl, t1, t2, t3, t4, t5, t6⟩
 ·rwa [if_neg (by decide)]
  exact zir G hfr F hf hx
 ·rwa [if_pos (show (Value.ref T != Value.none) = true from by simp)]
  refine wpAny_bind (wpAny_field t3 t4 (Array.getElem?_eq_getElem t6) ?_)
  by_cases q : (ts[3] == rawInt L) = true
  ·rwa [if_pos q]
   exact wpAny_pure ⟨Ext.refl _, G, o, vs, T, oT, ts, h1, h2, h3, t1, t2, t3, t4, t5, t6⟩
  ·rwa [if_neg q]
   refine wpAny_bind (wpAny_setField t3 t4 t6 ?_)
   refine xA (zmk G t3 t4 t5) fun o1 o2 => ?_
   have T2 := G.other (h' := s.heap.update T (Obj.mapFields (·.setIfInBounds 3 Value.none))) (fun b hb o q => (Heap.get?_update_other _ _ (Ne.symm hb)).trans q) t2 o1 o2 s.toks
   exact wpAny_mono (zir (E := E) T2.1 hfr F hf hx) (fun _ _ r => ⟨T2.2.trans r.1, r.2⟩) fun _ _ r => r
theorem zdq {s : Shared} (G : zaB B l s) {e C d : Addr} (hx : (e, zaa.exc C d) ∈ l) (ht : znI B.h₀ s.heap e) (fr : Option Addr) :
  wpAny (model B.prog B.w) A (setFlight (.ref e) fr) (fun _ s' => Ext s.heap s'.heap ∧ zaB B l s' ∧ znI B.h₀ s'.heap e ∧ (zhO B.h₀ s.heap e → zhO B.h₀ s'.heap e)) E s := by
 refine zcs ht fun o vs v h1 h2 h3 h4 => ?_
 clear ht
 unfold setFlight
 refine wpAny_bind (wpAny_field h1 h2 h3 ?_)
 rcases h4 with rfl | ⟨T, oT, ts, rfl, t1, t2, t3, t4, t5, t6⟩
 ·rwa [if_neg (by decide)]
  exact wpAny_pure ⟨Ext.refl _, G, ⟨o, vs, .none, h1, h2, h3, .inl rfl⟩, id⟩
 ·rwa [if_pos (show (Value.ref T != Value.none) = true from by simp)]
  refine wpAny_setField t3 t4 t6 ?_
  refine xA (zmk G t3 t4 t5) fun o1 o2 => ?_
  have T2 := G.other (h' := s.heap.update T (Obj.mapFields (·.setIfInBounds 3 (fr.elim .none fun f => rawInt f)))) (fun b hb o q => (Heap.get?_update_other _ _ (Ne.symm hb)).trans q) t2 o1 o2 s.toks
  have S : zhO B.h₀ (s.heap.update T (Obj.mapFields (·.setIfInBounds 3 (fr.elim .none fun f => rawInt f)))) e :=
   ⟨o, vs, T, _, _, (Heap.get?_update_other _ _ t1).trans h1, h2, h3, t1, t2, Heap.get?_update_self _ t3 (Obj.isFreed_of_fields (Obj.data_mapFields t4 _)), Obj.data_mapFields t4 _, (Obj.cls_mapFields ..).trans t5, by simpa using t6⟩
  exact ⟨T2.2, T2.1, S.at, fun _ => S⟩
theorem zlF {s : Shared} (G : zaB B l s) {env : Env} {outer : List Env} (hfr : A.frames = some (env :: outer)) (F : FrL l (env :: outer)) {e C d : Addr} (hx : (e, zaa.exc C d) ∈ l) (ht : znI B.h₀ s.heap e) :
  wpAny (model B.prog B.w) A (leaving env (.ref e)) (fun _ s' => zme B l s.heap e s') E s := by
 unfold leaving
 refine wpAny_bind (wpAny_mono (zhq (E := E) G hfr F hx ht) (fun _ s1 r => ?_) fun _ _ q => q)
 exact wpAny_mono (zdq (E := E) r.2.1 hx r.2.2.at none) (fun _ s2 q => ⟨r.1.trans q.1, q.2.1, q.2.2.2 r.2.2⟩) fun _ _ q => q
theorem znF {s : Shared} (G : zaB B l s) {env : Env} {e C d : Addr} (hx : (e, zaa.exc C d) ∈ l) (ht : zhO B.h₀ s.heap e) {Q : Value → Shared → Prop}
  (h : ∀ s', zme B l s.heap e s' → Q (.ref e) s') : cameBackBy (model B.prog B.w) A env Q (.ref e) s := by
 unfold cameBackBy
 refine zgp (id ht) fun o vs T oT ts h1 h2 h3 h4 => ?_
 refine wpAny_bind (wpAny_field h1 h2 h3 ?_)
 rwa [if_neg (by simp)]
 exact wpAny_mono (zdq (E := Q) G hx ht.at env.frame) (fun _ s' q => h s' ⟨q.1, q.2.1, q.2.2.2 ht⟩) fun _ _ q => q
end
structure zaZ (B : zan) (A : Around) (f : AV) (as : List AV) (l : Led) (Φ : EQ) (Ψ : XQ) : Prop where
 mk ::
 go : ∀ s v vs, zaB B l s → VR s.heap v f → VRs s.heap vs as → wpAny (model B.prog B.w) A (call v vs []) (Res B VR s.heap Φ) (Exn B s.heap Ψ) s
noncomputable def zmf (B : zan) (h0 : Heap) (Φ : EQ) (Ψ : XQ) (r : Result) (s' : Shared) : Prop := match r with
 | .ok (.ret v) => Res B VR h0 Φ v s'
 | .ok _ => False
 | .error e => Exn B h0 Ψ e s'
structure Fn (B : zan) (A : Around) (f : AV) (as : List AV) (l : Led) (Φ : EQ) (Ψ : XQ) : Prop where
 mk ::
 go : ∀ s v vs, zaB B l s → VR s.heap v f → VRs s.heap vs as → codeAny (model B.prog B.w) A (.call v ⟨vs, []⟩) (zmf B s.heap Φ Ψ) s
noncomputable def ze7 (B : zan) (f : AV) (l : Led) : Prop :=
 ∀ s v, zaB B l s → VR s.heap v f → ∃ k, (k = Keeper.frame ∨ k = Keeper.machine ∨ k = Keeper.boundFrame) ∧ Looks (model B.prog B.w) s.heap (keeperOf v) k
section
variable {B : zan} {A : Around} {env : Env} {Ψ : XQ} {l : Led} {pos : Pos} {Φ : EQ}
theorem zab {f : AV} {as : List AV} (h : Fn B A f as l Φ Ψ) : zaZ B A f as l Φ Ψ := .mk <| fun s v vs G r rs =>
 wpAny_call (codeAny_mono (h.go s v vs G r rs) fun r s' q => by
  cases r with
  | error e => exact q
  | ok f => cases f <;> exact q)
theorem zkw {a : Addr} (hk : keepIn B.K (.ref a) = true) : ze7 B (.ref a) l := fun s v G r => by
 cases r; exact keeps_K hk _ G.kin
theorem zap {n : String} : ze7 B (.bi n) l := fun s v G r => by
 cases r; exact (iEA .machine (.inr (.inl rfl)) (Looks.of_pure rfl))
theorem zaA {n : String} : ze7 B (.ty n) l := fun s v G r => by
 cases r; exact (iEA .machine (.inr (.inl rfl)) (Looks.of_pure rfl))
noncomputable def zbk : List Expr → Bool
 | [] => true
 | .Starred _ _ :: _ => false
 | _ :: r => zbk r
theorem zcN {e : Expr} {r : List Expr} (h : zbk (e :: r) = true) : starEach (e :: r) env = (false, eval e env) :: starEach r env := by
 cases e <;> first | (walk_at "r") | cases h
theorem zfb {e : Expr} {r : List Expr} (h : zbk (e :: r) = true) : zbk r = true := by
 cases e <;> first | exact h | cases h
theorem zdb : ∀ {es : List Expr}, zbk es = true → (backTo pos (starEach es env)).any (·.1) = false
 | [], _ => by walk_at "r"
 | e :: r, h => by
  rwa [zcN h]
  show (false || (backTo pos (starEach r env)).any (·.1)) = false
  rwa [zdb (zfb h)]; rfl
theorem zhE {f : Value} {es : List Expr} {Q : Args → Shared → Prop} {E : Value → Shared → Prop} {s : Shared} (hs : zbk es = true)
  (h : wpAny (model B.prog B.w) A (spliced (backTo pos (starEach es env))) (fun vs s' => Q ⟨vs, []⟩ s') E s) : wpAny (model B.prog B.w) A (evalArgs f true (backTo pos (starEach es env)) []) Q E s := by
 cases es with
 | nil =>
  unfold evalArgs
  show wpAny (model B.prog B.w) A (spliced [] >>= _) Q E s
  refine wpAny_bind (wpAny_mono h (fun vs s' h' => ?_) fun _ _ x => x)
  refine wpAny_bind (wpAny_pure ?_)
  refine wpAny_holding ?_
  exact wpAny_bind (wpAny_pure (wpAny_bind (wpAny_pure (wpAny_pure h'))))
 | cons e r =>
  rw [zcN hs] at h ⊢
  exact Calls.evalArgs_plain h
theorem ze4 {f : AV} {first : List AV} {es : List Expr} {fv : Value} {fs : List Value} {h0 : Heap} {s : Shared} (G : zaB B l s) (rf : VR s.heap fv f) (rfs : VRs s.heap fs first) (x : Ext h0 s.heap) (hp : zbk es = true)
  (h : Es B A env pos l es (fun as l2 => ze7 B f l2 ∧ zaZ B A f (first ++ as) l2 Φ Ψ) Ψ) :
  wpAny (model B.prog B.w) A (callWith pos fv fs (backTo pos (starEach es env)) []) (Res B VR h0 Φ) (Exn B h0 Ψ) s := by
 refine callWith_of (P := fun h' => ∃ k, (k = Keeper.frame ∨ k = Keeper.machine ∨ k = Keeper.boundFrame) ∧ Looks (model B.prog B.w) h' (keeperOf fv) k) (by rwa [zdb hp]; rfl) (fun _ q => q) ?_
 refine zhE hp (zaE (h.go s G) x (fun vs as l2 s2 x2 r2 G2 h2 => ⟨h2.1 s2 fv G2 (rf.mono x2), ?_⟩) fun _ _ e => e)
 exact wpAny_mono (h2.2.go s2 fv (fs ++ vs) G2 (rf.mono x2) ((rfs.mono x2).append r2)) (fun _ _ r => r.ext (x.trans x2)) fun _ _ r => r.ext (x.trans x2)
noncomputable abbrev zpQ (B : zan) (A : Around) (Ψ : XQ) (Φ : EQ) (f : AV) (as : List AV) (l : Led) : Prop := ze7 B f l ∧ zaZ B A f as l Φ Ψ
noncomputable abbrev zpR (B : zan) (A : Around) (env : Env) (Ψ : XQ) (pos : Pos) (es : List Expr) (Φ : EQ) (f : AV) (l : Led) : Prop := Es B A env pos l es (zpQ B A Ψ Φ f) Ψ
theorem zqw {x : Str} {np : Pos} {es : List Expr} (h : Ev B A env l (.Name x np) (zpR B A env Ψ pos es Φ) Ψ) (hp : zbk es = true := by rfl) :
  Ev B A env l (.Call (.Name x np) es [] pos) Φ Ψ := .mk <| fun s G =>
 wpAny_Call_ofName (zaE (h.go s G) (Ext.refl _) (fun v f l1 s1 x1 r1 G1 h1 => ze4 G1 r1 .nil x1 hp h1) fun _ _ e => e)
noncomputable def zkZ (B : zan) (A : Around) (pl : Sem Bool) (name : Str) (a : AV) (l : Led) (Φ : AV × List AV → Led → Prop) (Ψ : XQ) : Prop :=
 ∀ s v, zaB B l s → VR s.heap v a → wpAny (model B.prog B.w) A (getMethod v name pl) (Res B (fun h (p : Value × List Value) (q : AV × List AV) => VR h p.1 q.1 ∧ VRs h p.2 q.2) s.heap Φ) (Exn B s.heap Ψ) s
noncomputable abbrev zpM (B : zan) (A : Around) (Ψ : XQ) (Φ : EQ) (q : AV × List AV) (as : List AV) (l : Led) : Prop := ze7 B q.1 l ∧ zaZ B A q.1 (q.2 ++ as) l Φ Ψ
noncomputable abbrev zpN (B : zan) (A : Around) (env : Env) (Ψ : XQ) (pos : Pos) (es : List Expr) (Φ : EQ) (q : AV × List AV) (l : Led) : Prop := Es B A env pos l es (zpM B A Ψ Φ q) Ψ
noncomputable abbrev zpO (B : zan) (A : Around) (env : Env) (Ψ : XQ) (pl : Sem Bool) (name : Str) (pos : Pos) (es : List Expr) (Φ : EQ) (a : AV) (l : Led) : Prop := zkZ B A pl name a l (zpN B A env Ψ pos es Φ) Ψ
theorem zkN {o : Expr} {name : Str} {apos : Pos} {es : List Expr} {pl : Sem Bool}
  (h : Ev B A env l o (zpO B A env Ψ pl name pos es Φ) Ψ)
  (he : eval (.Call (.Attribute o name apos) es [] pos) env = (do
   let ov ← eval o env
   standAt apos.atName
   let (f, first) ← holding [ov] (getMethod ov name pl)
   callWith pos f first (backTo pos (starEach es env)) (backToKw pos (keywordEach [] env))) := by rfl) (hp : zbk es = true := by rfl) :
  Ev B A env l (.Call (.Attribute o name apos) es [] pos) Φ Ψ := .mk <| fun s G =>
 methodCall_KW (pl := pl) (zaE (h.go s G) (Ext.refl _) (fun v a l1 s1 x1 r1 G1 h1 => zaE (h1 s1 v G1 r1) x1 (fun p q l2 s2 x2 r2 G2 h2 => ze4 G2 r2.1 r2.2 (x1.trans x2) hp h2) fun _ _ e => e) fun _ _ e => e) he
noncomputable def znp (K : Frag) (f : Addr) : Option FuncData := match K.lookup f with
 | some ⟨_, _, .func fd, _⟩ => some fd
 | _ => none
theorem zlO {K : Frag} {f : Addr} {fd : FuncData} {h : Heap} (X : K.In h) (e : znp K f = some fd) : ∃ o, h.get? f = some o ∧ o.data = .func fd := by
 unfold znp at e
 split at e
 ·rename_i q; cases e; exact (iEA _ (X _ _ q) rfl)
 ·cases e
structure zaf (env : Env) (L : Addr) (ls gs : List Str) (cl fl : List (Str × Addr)) : Prop where
 locals : env.locals = L
 kind : env.scope.kind = .function
 globals : env.globals = mainGlobals
 builtins : env.builtins = builtinsNs
 loc : ∀ x ∈ ls, env.kindOf x = some .local
 glo : ∀ x ∈ gs, env.kindOf x = some .globalImplicit
 cel : ∀ p ∈ cl, env.cells.lookup p.1 = some p.2 ∧ env.kindOf p.1 = some .cell
 fre : ∀ p ∈ fl, env.cells.lookup p.1 = some p.2 ∧ env.kindOf p.1 = some .free
 dbg : ∀ x ∈ ls ++ gs ++ cl.map (·.1) ++ fl.map (·.1), (x == ("__debug__" : Str)) = false ∧ (x == ("__classdict__" : Str)) = false
noncomputable def zbo : List (Str × Bool) → List Str
 | [] => []
 | (x, false) :: r => x :: zbo r
 | (_, true) :: r => zbo r
noncomputable def zcD : List (Str × Bool) → List AV → List (Str × Option AV)
 | (x, false) :: r, a :: l => (x, some a) :: zcD r l
 | (_, true) :: r, _ :: l => zcD r l
 | _, _ => []
noncomputable def zbQ (cs : List (Str × Option Nat)) (as : List AV) (ca : List Addr) : Led := (cs.zip ca).map fun q => (q.2, zaa.cell (q.1.2.bind fun i => as[i]?))
noncomputable def zcl (cs : List (Str × Option Nat)) (ca : List Addr) : List (Str × Addr) := (cs.zip ca).map fun q => (q.1.1, q.2)
noncomputable def zbm (x : Str) : Bool := !(x == ("__debug__" : Str)) && !(x == ("__classdict__" : Str))
noncomputable def zpZ (K : Frag) (f : Addr) (ps : List (Str × Bool)) (rest : List Str) (cs : List (Str × Option Nat)) (gs : List Str) : Bool := match znp K f with
 | some fd => fd.scope.kind == .function && !fd.scope.isCoroutine && !fd.scope.isGenerator && fd.closure.isEmpty && ps.all (fun p => fd.scope.names.lookup p.1 == some (if p.2 then .cell else .local)) && rest.all (fun x => fd.scope.names.lookup x == some .local)
   && gs.all (fun x => fd.scope.names.lookup x == some .globalImplicit) && codeIn K fd.code fd.qualname && decide ((ps.map (·.1) ++ rest).Nodup) && fd.globals == mainGlobals && fd.builtins == builtinsNs
   && (zbo ps ++ rest ++ gs ++ cs.map (·.1)).all zbm && (cellsFrom 0 fd.scope.names []).map (·.1) == cs.map (·.1) && decide ((cs.map (·.1)).Nodup) && cs.all (fun c => fd.scope.names.lookup c.1 == some .cell)
   && cs.all (fun c => match c.2 with | some i => (ps[i]?).map (·.1) == some c.1 | none => !(ps.map (·.1)).contains c.1) && ps.all (fun p => !p.2 || (cs.map (·.1)).contains p.1)
 | none => false
theorem zjg {K : Frag} {f : Addr} {ps : List (Str × Bool)} {rest gs : List Str} {cs : List (Str × Option Nat)} (h : zpZ K f ps rest cs gs = true) : ∃ fd, znp K f = some fd ∧ fd.scope.kind = .function ∧ fd.scope.isCoroutine = false ∧ fd.scope.isGenerator = false ∧ fd.closure = [] ∧
  (∀ p ∈ ps, fd.scope.names.lookup p.1 = some (if p.2 then .cell else .local)) ∧ (∀ x ∈ rest, fd.scope.names.lookup x = some .local) ∧ (∀ x ∈ gs, fd.scope.names.lookup x = some .globalImplicit) ∧ codeIn K fd.code fd.qualname = true ∧ (ps.map (·.1) ++ rest).Nodup ∧
  fd.globals = mainGlobals ∧ fd.builtins = builtinsNs ∧ (∀ x ∈ zbo ps ++ rest ++ gs ++ cs.map (·.1), zbm x = true) ∧ (cellsFrom 0 fd.scope.names []).map (·.1) = cs.map (·.1) ∧ (cs.map (·.1)).Nodup ∧ (∀ c ∈ cs, fd.scope.names.lookup c.1 = some .cell) ∧
  (∀ c ∈ cs, (match c.2 with | some i => (ps[i]?).map (·.1) == some c.1 | none => !(ps.map (·.1)).contains c.1) = true) ∧ (∀ p ∈ ps, p.2 = true → p.1 ∈ cs.map (·.1)) := by
 unfold zpZ at h
 split at h
 ·rename_i fd e
  simp only [Bool.and_eq_true, List.all_eq_true, beq_iff_eq, Bool.not_eq_true', decide_eq_true_eq, List.isEmpty_iff] at h
  refine xA h fun yq1 h17 => ?_
  clear h
  refine ⟨fd, e, yq1.1.1.1.1.1.1.1.1.1.1.1.1.1.1.1, yq1.1.1.1.1.1.1.1.1.1.1.1.1.1.1.2, yq1.1.1.1.1.1.1.1.1.1.1.1.1.1.2, yq1.1.1.1.1.1.1.1.1.1.1.1.1.2, yq1.1.1.1.1.1.1.1.1.1.1.1.2, yq1.1.1.1.1.1.1.1.1.1.1.2, yq1.1.1.1.1.1.1.1.1.1.2, yq1.1.1.1.1.1.1.1.1.2, yq1.1.1.1.1.1.1.1.2, yq1.1.1.1.1.1.1.2, yq1.1.1.1.1.1.2, yq1.1.1.1.1.2, yq1.1.1.1.2, yq1.1.1.2, yq1.1.2, yq1.2, (fun p hp q => ?_)⟩
  have := h17 p hp
  rw [q] at this
  simpa using this
 ·cases h
theorem zbU : ∀ (ns : List (Str × NameKind)) (n m : Nat) (a b : List (Str × Addr)), a.map (·.1) = b.map (·.1) → (cellsFrom n ns a).map (·.1) = (cellsFrom m ns b).map (·.1)
 | [], _, _, _, _, e => e
 | (x, k) :: r, n, m, a, b, e => by
  unfold cellsFrom
  split
  ·exact zbU r _ _ _ _ (by simp [e])
  ·exact zbU r _ _ _ _ e
theorem zdN : ∀ (rest : List Str) (x : Str), zgJ (rest.map fun y => (y, none)) x = none
 | [], _ => rfl
 | y :: t, x => by unfold zgJ; rwa [List.map_cons]; dsimp only; split <;> first | rfl | exact zdN t x
theorem ziv {K : Str → Option NameKind} {x : Str} : ∀ {bs : List (Str × Value)} {m : Str → Option Value}, (bs.map (·.1)).Nodup → bindL K bs m x = if K x = some .local then (bs.lookup x).or (m x) else m x
 | [], m, _ => by unfold bindL; simp
 | (n, v) :: r, m, nd => by
  rw [List.map_cons, List.nodup_cons] at nd
  unfold bindL
  rwa [ziv nd.2, List.lookup_cons]
  by_cases e : x = n
  ·subst e
   rwa [show (x == x) = true from beq_self_eq_true x]
   have hn : r.lookup x = none := by
    cases q : r.lookup x with
    | none => rfl
    | some v => exact absurd (List.mem_map_of_mem (f := (·.1)) (mem_of_lookup q)) nd.1
   by_cases k : K x = some .local
   ·simp [k, hn]
   ·simp [k]
  ·rwa [show (x == n) = false from beq_eq_false_iff_ne.mpr e]
   by_cases k : K n = some .local
   ·simp [k, e]
   ·simp [k]
theorem ziw {K : Str → Option NameKind} {x : Str} (hk : K x ≠ some .local) : ∀ {bs : List (Str × Value)} {m : Str → Option Value}, (bs.map (·.1)).Nodup → bindC K bs m x = (bs.lookup x).or (m x)
 | [], m, _ => by unfold bindC; simp
 | (n, v) :: r, m, nd => by
  rw [List.map_cons, List.nodup_cons] at nd
  unfold bindC
  rwa [ziw hk nd.2, List.lookup_cons]
  by_cases e : x = n
  ·subst e
   rwa [show (x == x) = true from beq_self_eq_true x]
   have hn : r.lookup x = none := by
    cases q : r.lookup x with
    | none => rfl
    | some v => exact absurd (List.mem_map_of_mem (f := (·.1)) (mem_of_lookup q)) nd.1
   simp [hk, hn]
  ·rwa [show (x == n) = false from beq_eq_false_iff_ne.mpr e]
   by_cases k : K n = some .local
   ·simp [k]
   ·simp [k, e]
theorem zgL {h : Heap} {K : Str → Option NameKind} {rest : List Str} (x : Str) : ∀ {ps : List (Str × Bool)} {vs : List Value} {as : List AV}, VRs h vs as → ps.length = as.length → (∀ p ∈ ps, K p.1 = some (if p.2 then .cell else .local)) →
  zjt h (if K x = some .local then ((ps.map (·.1)).zip vs).lookup x else none) (zgJ (zcD ps as ++ rest.map fun y => (y, none)) x)
 | [], vs, as, r, hl, hk => by
  cases r with
  | nil => show zjt h _ (zgJ (rest.map fun y => (y, none)) x); rwa [zdN]; split <;> trivial
  | cons _ _ => cases hl
 | (y, b) :: t, vs, as, r, hl, hk => by
  cases r with
  | nil => cases hl
  | @cons v a vs' as' r rs =>
   have ih := zgL (rest := rest) (K := K) x rs (by simpa using hl) fun p hp => hk p (.tail _ hp)
   have hy := hk _ (.head _)
   rwa [List.map_cons, List.zip_cons_cons, List.lookup_cons]
   cases b with
   | true =>
    show zjt h _ (zgJ (zcD t as' ++ _) x)
    by_cases e : x = y
    ·subst e
     have q : ¬ K x = some .local := by rwa [hy]; exact fun q => by cases q
     rw [if_neg q] at ih ⊢; exact ih
    ·rwa [show (x == y) = false from beq_eq_false_iff_ne.mpr e]; exact ih
   | false =>
    show zjt h _ (zgJ ((y, some a) :: (zcD t as' ++ _)) x)
    unfold zgJ
    by_cases e : x = y
    ·subst e
     have q : K x = some .local := hy
     rwa [if_pos q, if_pos rfl, show (x == x) = true from beq_self_eq_true x]; exact r
    ·rwa [show (x == y) = false from beq_eq_false_iff_ne.mpr e, if_neg e]; exact ih
theorem zc4 : ∀ {ps : List (Str × Bool)} {as : List AV}, ps.length = as.length → (zcD ps as).map (·.1) = zbo ps
 | [], [], _ => rfl
 | (y, true) :: t, a :: as, h => zc4 (ps := t) (by simpa using h)
 | (y, false) :: t, a :: as, h => by show y :: _ = y :: _; rwa [zc4 (ps := t) (by simpa using h)]
theorem zcA : ∀ (ps : List (Str × Bool)), (zbo ps).Sublist (ps.map (·.1))
 | [] => .slnil
 | (y, true) :: t => (zcA t).cons _
 | (y, false) :: t => (zcA t).cons_cons _
theorem zcB : ∀ {ps : List (Str × Bool)} {x : Str}, x ∈ zbo ps → (x, false) ∈ ps
 | (y, true) :: t, x, h => .tail _ (zcB (ps := t) h)
 | (y, false) :: t, x, h => by
  rcases List.mem_cons.mp h with rfl | h
  ·exact .head _
  ·exact .tail _ (zcB (ps := t) h)
theorem zn0 {h : Heap} {ps : List Str} {vs : List Value} {as : List AV} (r : VRs h vs as) (hl : ps.length = as.length) (nd : ps.Nodup) {i : Nat} {x : Str} (hx : ps[i]? = some x) : zjt h ((ps.zip vs).lookup x) as[i]? := by
 induction ps generalizing vs as i with
 | nil => simp at hx
 | cons y t ih =>
  cases r with
  | nil => cases hl
  | cons r rs =>
   rw [List.nodup_cons] at nd
   rwa [List.zip_cons_cons, List.lookup_cons]
   cases i with
   | zero =>
    simp at hx; subst hx
    rwa [show (y == y) = true from beq_self_eq_true y]; exact r
   | succ i =>
    have hx' : t[i]? = some x := by simpa using hx
    have : x ≠ y := fun e => nd.1 (e ▸ List.mem_of_getElem? hx')
    rwa [show (x == y) = false from beq_eq_false_iff_ne.mpr this]
    simpa using ih rs (by simpa using hl) nd.2 hx'
noncomputable def zok : Fl → AV
 | .ret a => a
 | _ => .none
inductive zbs (Φ : EQ) (fl : Fl) (l' : Led) : Prop
 | mk (l'' : Led) (h1 : Le l'' l') (h2 : Φ (zok fl) l'') : zbs Φ fl l'
inductive EvQ (Φ : EQ) (a : AV) (l' : Led) : Prop
 | mk (l'' : Led) (h1 : Le l'' l') (h2 : Φ a l'') : EvQ Φ a l'
theorem ze3 : ∀ {cs : List (Str × Option Nat)} {cf : List (Str × Addr)}, cf.map (·.1) = cs.map (·.1) → zcl cs (cf.map (·.2)) = cf
 | [], [], _ => rfl
 | c :: cs, p :: cf, h => by
  rw [List.map_cons, List.map_cons] at h
  injection h with h1 h2
  show (c.1, p.2) :: zcl cs (cf.map (·.2)) = p :: cf
  rwa [ze3 h2, ← h1]
theorem zd7 : ∀ {cs : List (Str × Option Nat)} {as : List AV} {cf : List (Str × Addr)}, cf.map (·.1) = cs.map (·.1) → ∀ p ∈ zbQ cs as (cf.map (·.2)), ∃ c ∈ cs, (c.1, p.1) ∈ cf ∧ p.2 = zaa.cell (c.2.bind fun i => as[i]?)
 | [], as, [], _, p, hp => nomatch hp
 | c :: cs, as, q :: cf, h, p, hp => by
  rw [List.map_cons, List.map_cons] at h
  injection h with h1 h2
  rcases List.mem_cons.mp (show p ∈ (q.2, zaa.cell (c.2.bind fun i => as[i]?)) :: zbQ cs as (cf.map (·.2)) from hp) with rfl | hp
  ·exact (ze8 c (.head _) (by rwa [← h1]; exact .head _) rfl)
  ·refine zdx (zd7 h2 p hp) fun c' a1 a2 a3 => ?_
   exact (ze8 c' (.tail _ a1) (.tail _ a2) a3)
theorem zdu : ∀ {cs : List (Str × Option Nat)} {as : List AV} {ca : List Addr}, ca.length = cs.length → (zbQ cs as ca).map (·.1) = ca
 | [], _, [], _ => rfl
 | c :: cs, as, a :: ca, h => by show a :: _ = a :: _; congr 1; exact zdu (by simpa using h)
noncomputable def Xp (A : Around) (env : Env) (Ψ : XQ) : XQ := fun X l' => (∃ outer, A.frames = some (env :: outer) ∧ FrL l' (env :: outer)) ∧ ∃ l'', Le l'' l' ∧ (X.e, zaa.exc X.C X.d) ∈ l'' ∧ Ψ X l''
theorem zgN {s' : Shared} {env : Env} {e : Value} {h0 : Heap} {R : Value → Shared → Prop} (x : Exn B h0 (Xp A env Ψ) e s') (hR : ∀ e s'', Exn B h0 Ψ e s'' → R e s'') : wpAny (model B.prog B.w) A (leaving env e) (fun _ s'' => R e s'') R s' := by
 refine zgr x fun x1 X l' yq2 m t G' yq3 l'' hle m' hΨ => ?_
 clear x
 subst yq2
 obtain ⟨outer, hfr, F⟩ := yq3
 exact wpAny_mono (zlF (E := R) G' hfr F m t) (fun _ s2 q => hR _ _ ⟨x1.trans q.1, X, l'', rfl, m', q.2.2.at, q.2.1.le hle, hΨ⟩) fun _ _ q => q
theorem zas {h : Heap} {a : Addr} (x : h.objs.size ≤ a) : h.get? a = none := by
 cases q : h.get? a with
 | none => rfl
 | some o => exact absurd (Heap.lt_size q) (Nat.not_lt.mpr x)
theorem zbW {α : Type} {x : Str} : ∀ {l : List (Str × α)}, x ∈ l.map (·.1) → (l.lookup x).isSome = true
 | p :: r, h => by
  rwa [List.lookup_cons]
  split
  ·rfl
  ·rename_i hne
   rw [List.map_cons] at h
   rcases List.mem_cons.mp h with rfl | h
   ·simp at hne
   ·exact zbW h
theorem zaW {α : Type} {p : Str × α} : ∀ {l : List (Str × α)}, (l.map (·.1)).Nodup → p ∈ l → l.lookup p.1 = some p.2
 | q :: r, nd, h => by
  rw [List.map_cons, List.nodup_cons] at nd
  rwa [List.lookup_cons]
  rcases List.mem_cons.mp h with rfl | h
  ·rwa [beq_self_eq_true]
  ·have : p.1 ≠ q.1 := fun e => nd.1 (e ▸ List.mem_map_of_mem (f := (·.1)) h)
   rwa [beq_eq_false_iff_ne.mpr this]; exact zaW nd.2 h
theorem zno {f : Addr} {fd : FuncData} {body : List Stmt} {ps : List (Str × Bool)} {rest gs : List Str} {cs : List (Str × Option Nat)} {as ds : List AV} {dv : List Value} (hf : znp B.K f = some fd) (hb : fd.body = .stmts body) (ok : zpZ B.K f ps rest cs gs = true)
  (hds : ∀ h, B.K.In h → VRs h dv ds) (hn : ps.length = as.length + ds.length) (hroom : A.depth < recursionLimit)
  (hbind : ∀ (s : Shared) (vs : List Value), B.K.In s.heap → vs.length = as.length → BindsTo s fd ⟨vs, []⟩ ((ps.map (·.1)).zip (vs ++ dv)))
  (h : ∀ L ca env, ca.length = cs.length → env.frame = some L → env.code = fd.code → zaf env L (zbo ps ++ rest) gs (zcl cs ca) [] →
   Ex B (A.deeper env) env ((L, .ns (zcD ps (as ++ ds) ++ rest.map fun x => (x, none))) :: (zbQ cs (as ++ ds) ca ++ l)) body (zbs Φ) (Xp (A.deeper env) env Ψ)) : Fn B A (.ref f) as l Φ Ψ := .mk <| by
 intro s v vs G r rs
 cases r
 refine zcT (zjg ok) fun fd' hf' h1 h2 h3 h4 h5 h6 h7 h8 h9 h10 h11 h12 h13 h14 h15 h16 h17 => ?_
 rw [hf] at hf'; cases hf'
 refine xEA (zlO G.kin hf) fun o ho hd => ?_
 have rr : VRs s.heap (vs ++ dv) (as ++ ds) := rs.append (hds _ G.kin)
 have hps : ps.length = (as ++ ds).length := by rwa [List.length_append]; exact hn
 have hz : ((ps.map (·.1)).zip (vs ++ dv)).map (·.1) = ps.map (·.1) := List.map_fst_zip (by rwa [rr.len, List.length_map]; walk_at "o")
 have ndz : (((ps.map (·.1)).zip (vs ++ dv)).map (·.1)).Nodup := by rwa [hz]; exact (List.nodup_append.mp h9).1
 refine codeAny_call_function hroom ho hd h2 h3 hb (codeRec_of G.kin h8) (hbind s vs G.kin rs.len _ _ _ _ ?_)
 rwa [h4]
 have hcf : (cellsFrom (s.heap.objs.size + 1) fd.scope.names []).map (·.1) = cs.map (·.1) := (zbU _ _ 0 [] [] rfl).trans h13
 refine wpAny_newFunctionEnv_cells h1 ?_ fun env he s' x => ?_
 ·intro p hp
  have hm : p.1 ∈ ps.map (·.1) := by rwa [← hz]; exact List.mem_map_of_mem hp
  refine xEA (List.mem_map.mp hm) fun q hq e => ?_
  have hq' := h5 q hq
  rwa [← e]
  cases hb' : q.2 with
  | false => rw [hb'] at hq'; exact .inl hq'
  | true =>
   rw [hb'] at hq'
   refine .inr ⟨hq', ?_⟩
   have := h17 q hq hb'
   rw [← hcf] at this
   exact zbW this
 ·subst he
  refine ⟨G.nolimit.keeps x.toInCall.keep, codeAny_func ?_⟩
  generalize hcfd : cellsFrom (s.heap.objs.size + 1) fd.scope.names [] = cf at hcf x
  generalize hbs : (ps.map (·.1)).zip (vs ++ dv) = bs at hz ndz x
  generalize henv : newEnv fd.scope s.heap.objs.size fd.globals cf (fd.qualname ++ ".<locals>.") (some f) fd.code none fd.builtins = env at x
  have k1 : ∀ y, env.kindOf y = fd.scope.names.lookup y := by subst henv; exact fun _ => rfl
  have eL : env.locals = s.heap.objs.size := by subst henv; rfl
  have eC : env.cells = cf := by subst henv; rfl
  refine xEE x.toInCall.same fun h' tk yq4 => ?_
  subst yq4
  have keep : ∀ b o, s.heap.get? b = some o → h'.get? b = some o := x.toInCall.keep
  have E := Ext.of_keeps keep
  have G0 := G.grow keep tk
  have hl : (cf.map (·.2)).length = cs.length := by rwa [List.length_map, ← List.length_map (f := (·.1)), hcf, List.length_map]
  have hce : zcl cs (cf.map (·.2)) = cf := ze3 hcf
  have ndc : (cf.map (·.1)).Nodup := by rwa [hcf]; exact h14
  have Fo : zaf env s.heap.objs.size (zbo ps ++ rest) gs (zcl cs (cf.map (·.2))) [] := by
   refine ⟨eL, by subst henv; exact h1, by subst henv; exact h10, by subst henv; exact h11, ?_, fun y hy => (k1 y).trans (h7 y hy), ?_, fun p hp => (nomatch hp), ?_⟩
   ·intro y hy
    rwa [k1]
    rcases List.mem_append.mp hy with hy | hy
    ·have := h5 _ (zcB hy); exact this
    ·exact h6 y hy
   ·intro p hp
    rw [hce] at hp
    refine ⟨by rwa [eC]; exact zaW ndc hp, ?_⟩
    rwa [k1]
    have : p.1 ∈ cs.map (·.1) := by rwa [← hcf]; exact List.mem_map_of_mem hp
    refine xEA (List.mem_map.mp this) fun c hc e => ?_
    rwa [← e]; exact h15 c hc
   ·intro y hy
    rw [hce, hcf] at hy
    have := h12 y (by simpa using hy)
    unfold zbm at this
    simpa using this
  have C : za2 B h' s.heap.objs.size (.ns (zcD ps (as ++ ds) ++ rest.map fun x => (x, none))) := by
   refine ⟨?_, _, eL ▸ x.toInCall.ns, fun y => ?_⟩
   ·rwa [List.map_append, zc4 hps, List.map_map]
    refine List.Nodup.sublist (l₂ := ps.map (·.1) ++ rest) ?_ h9
    have : (List.map ((fun x => x.1) ∘ fun x => (x, (none : Option AV))) rest) = rest := List.map_id _
    rwa [this]
    exact List.Sublist.append (zcA ps) (List.Sublist.refl _)
   ·rwa [ziv ndz]
    have := zgL (h := h') (K := env.kindOf) (rest := rest) y (rr.mono E) hps (fun p hp => (k1 _).trans (h5 p hp))
    rw [hbs] at this
    by_cases q : env.kindOf y = some .local
    ·rw [if_pos q] at this ⊢; simpa using this
    ·rw [if_neg q] at this ⊢; exact this
  have CC : ∀ p ∈ zbQ cs (as ++ ds) (cf.map (·.2)), za2 B h' p.1 p.2 ∧ s.heap.objs.size < p.1 := by
   intro p hp
   refine zdx (zd7 hcf p hp) fun c hc hcp e2 => ?_
   have hb := x.above _ _ (by rewrite [eC]; exact hcp)
   rw [eL] at hb
   refine ⟨?_, hb⟩
   have := x.cell _ _ (by rewrite [eC]; exact zaW ndc hcp)
   refine xEA this fun o' ho' hd' => ?_
   clear this
   rwa [e2]
   have kc : env.kindOf c.1 ≠ some .local := by rwa [k1, h15 c hc]; exact fun q => by cases q
   refine ⟨o', _, ho', hd', ?_⟩
   rwa [ziw kc ndz]
   have hh := h16 c hc
   cases q : c.2 with
   | none =>
    rw [q] at hh
    have hnm : c.1 ∉ ps.map (·.1) := by simpa using hh
    have : bs.lookup c.1 = none := by
     cases q' : bs.lookup c.1 with
     | none => rfl
     | some v => exact absurd (by rwa [← hz]; exact List.mem_map_of_mem (f := (·.1)) (mem_of_lookup q')) hnm
    rwa [this]; trivial
   | some i =>
    rw [q] at hh
    have hi : (ps.map (·.1))[i]? = some c.1 := by simpa using hh
    have := zn0 (rr.mono E) (by rwa [List.length_map]; exact hps) (List.nodup_append.mp h9).1 hi
    rw [hbs] at this
    simpa using this
  have kk : (zbQ cs (as ++ ds) (cf.map (·.2))).map (·.1) = cf.map (·.2) := zdu hl
  have ndcf : (cf.map (·.2)).Nodup := by
   have := x.apart
   rw [eC] at this
   rwa [List.Nodup, List.pairwise_map]; exact this
  have G' : zaB B ((s.heap.objs.size, .ns (zcD ps (as ++ ds) ++ rest.map fun x => (x, none))) :: (zbQ cs (as ++ ds) (cf.map (·.2)) ++ l)) { s with heap := h', toks := tk } := by
   have new0 : ∀ a, s.heap.objs.size ≤ a → a ∉ l.map (·.1) ∧ B.h₀.get? a = none := fun a ha => G.fresh (zas ha)
   refine ⟨G0.base, ?_, ?_, ?_, G0.os, G0.gens⟩
   ·intro p hp
    refine mcE hp ?_ fun p hp => ?_
    ·exact C
    ·rcases List.mem_append.mp hp with hp | hp
     ·exact (CC p hp).1
     ·exact G0.cells p hp
   ·rwa [List.map_cons, List.map_append, kk, List.nodup_cons, List.nodup_append]
    refine (zjf (fun hm => ?_) ndcf G.nodup (fun a ha b hb e => ?_))
    ·rcases List.mem_append.mp hm with hm | hm
     ·rw [← kk] at hm
      refine xEA (List.mem_map.mp hm) fun p hp e => ?_
      have := (CC p hp).2
      dsimp only at e
      rw [e] at this; exact Nat.lt_irrefl _ this
     ·exact (new0 _ (Nat.le_refl _)).1 hm
    ·rw [← kk] at ha
     refine xEA (List.mem_map.mp ha) fun p hp e' => ?_
     have := (CC p hp).2
     rw [e'] at this
     exact (new0 _ (Nat.le_of_lt this)).1 (e ▸ hb)
   ·intro p hp
    refine mcE hp ?_ fun p hp => ?_
    ·exact (new0 _ (Nat.le_refl _)).2
    ·rcases List.mem_append.mp hp with hp | hp
     ·exact (new0 _ (Nat.le_of_lt (CC p hp).2)).2
     ·exact G.apart p hp
  refine wpAny_mono ((h _ _ env hl (by subst henv; rfl) (by subst henv; rfl) Fo).go _ G') (fun fl s' q => ?_) (fun e s' q => ?_)
  ·obtain ⟨y, fl', l', rfl', G2, l'', hsub, hΦ⟩ := q
   refine ⟨E.trans y, zok fl', l'', ?_, G2.le hsub, hΦ⟩
   cases rfl' with
   | ret r => exact r
   | _ => exact .none
  ·exact zgN (R := fun e s'' => zmf B s.heap Φ Ψ (.error e) s'') (q.ext E) fun _ _ q => q
end
theorem KvR.keys {h : Heap} {vs : List (Str × Value)} {l : List (Str × AV)} (r : KvR h vs l) : vs.map (·.1) = l.map (·.1) := by
 induction r with
 | nil => exact rfl
 | cons _ _ ih => exact congrArg (_ :: ·) ih
theorem KvR.len {h : Heap} {vs : List (Str × Value)} {l : List (Str × AV)} (r : KvR h vs l) : vs.length = l.length := by
 have := congrArg List.length r.keys; simpa using this
theorem KvR.at {h : Heap} {vs : List (Str × Value)} {l : List (Str × AV)} {k : Str} {a : AV} (r : KvR h vs l) (nd : (l.map (·.1)).Nodup) (hm : (k, a) ∈ l) : ∃ v, valueAt vs k = some v ∧ VR h v a := by
 induction r with
 | nil => exact nomatch hm
 | @cons k' v' _ _ _ r rs ih =>
  rw [List.map_cons, List.nodup_cons] at nd
  unfold valueAt
  rwa [List.find?_cons]
  rcases List.mem_cons.mp hm with q | q
  ·cases q; simp; exact r
  ·have : ¬ k' = k := fun e => nd.1 (by show k' ∈ _; rwa [e]; exact List.mem_map_of_mem (f := (·.1)) q)
   rwa [show decide ((k', v').1 = k) = false from decide_eq_false this]
   exact ih nd.2 q
theorem zdU {vs : List (Str × Value)} {k : Str} (h : k ∉ vs.map (·.1)) : valueAt vs k = none := by
 unfold valueAt
 rwa [List.find?_eq_none.mpr]; rfl
 intro p hp e
 exact h (List.mem_map.mpr (iEA p hp (by simpa using e)))
theorem zae {h : Heap} {vs : List (Str × Value)} {l : List (Str × AV)} {k : Str} {v : Value} {a : AV} (r : KvR h vs l) (hk : k ∉ l.map (·.1)) (rv : VR h v a) : KvR h (stored vs k v) (l ++ [(k, a)]) := by
 have hk' : k ∉ vs.map (·.1) := by rwa [r.keys]; exact hk
 have : stored vs k v = vs ++ [(k, v)] := by
  unfold stored
  rwa [if_neg]
  intro q
  refine xEA (List.any_eq_true.mp q) fun p hp e => ?_
  exact hk' (List.mem_map.mpr (iEA p hp (by simpa using e)))
 rwa [this]
 clear this hk hk'
 induction r with
 | nil => exact .cons rv .nil
 | cons r _ ih => exact .cons r ih
theorem zlC {vs : List (Str × Value)} {k : Str} {v : Value} (hk : k ∉ vs.map (·.1)) : vs.map (fun kv => if kv.1 = k then (kv.1, v) else kv) = vs := by
 induction vs with
 | nil => rfl
 | cons p r ih =>
  rw [List.map_cons, List.mem_cons, not_or] at hk
  rwa [List.map_cons, if_neg (fun e => hk.1 e.symm), ih hk.2]
theorem zbe {h : Heap} {l : List (Str × AV)} {k : Str} {a₀ : AV} {f : AV → List (Str × AV)} (u : UpN l k a₀ f) {vs : List (Str × Value)} {v : Value} {a : AV} (r : KvR h vs l) (nd : (l.map (·.1)).Nodup) (rv : VR h v a) : KvR h (stored vs k v) (f a) := by
 have : (vs.any fun kv => kv.1 = k) = true := by
  have : k ∈ vs.map (·.1) := by rwa [r.keys]; exact List.mem_map_of_mem (f := (·.1)) u.mem
  refine xEA (List.mem_map.mp this) fun p hp e => ?_
  exact List.any_eq_true.mpr (iEA p hp (by simpa using e))
 unfold stored
 rwa [if_pos this]
 clear this
 induction u generalizing vs with
 | head =>
  rename_i x w t
  cases r with
  | cons r rs =>
   rw [List.map_cons, List.nodup_cons] at nd
   rwa [List.map_cons, if_pos rfl, zlC (by rwa [rs.keys]; exact nd.1)]
   exact .cons rv rs
 | tail u ih =>
  rename_i x w p t f
  cases r with
  | cons r rs =>
   rw [List.map_cons, List.nodup_cons] at nd
   rename_i k' v' a' vs'
   have : ¬ k' = x := fun e => nd.1 (by show k' ∈ _; rwa [e]; exact List.mem_map_of_mem (f := (·.1)) u.mem)
   rwa [List.map_cons, if_neg this]
   exact .cons r (ih rs nd.2)
noncomputable def zcd (l : List (Str × AV)) (k : Str) : List (Str × AV) := l.filter fun kv => decide (kv.1 ≠ k)
theorem zg9 {h : Heap} {vs : List (Str × Value)} {l : List (Str × AV)} {k : Str} (r : KvR h vs l) : KvR h (without vs k) (zcd l k) := by
 unfold PySem.without zcd
 induction r with
 | nil => exact .nil
 | @cons k' v a vs l r _ ih =>
  by_cases e : k' = k
  ·simpa [List.filter_cons, e] using ih
  ·simp only [List.filter_cons, ne_eq, e, not_false_eq_true, decide_true, if_true]
   exact .cons r ih
theorem zaS {B : zan} {h : Heap} {a : Addr} {kvs : List (Str × Value)} {l : List (Str × AV)} (d : h.DictOf (strKind B.prog B.w) a kvs) (r : KvR h kvs l) : (l.map (·.1)).Nodup := by
 refine zbR d fun _ _ _ _ _ _ _ _ nd => ?_
 clear d
 rwa [← r.keys]; exact nd
section
variable {B : zan} {A : Around} {env : Env} {Ψ : XQ} {l : Led} {Θ : Fl → Led → Prop} {pos : Pos} {Φ : EQ}
noncomputable def zjw (B : zan) (A : Around) (value slice : Expr) (a b : AV) (l : Led) (Φ : EQ) (Ψ : XQ) : Prop := Op2 B A (subscriptTail value slice) a b l Φ Ψ
noncomputable abbrev zrI (B : zan) (A : Around) (Ψ : XQ) (value slice : Expr) (Φ : EQ) (a b : AV) (l : Led) : Prop := zjw B A value slice a b l Φ Ψ
theorem zrc {value slice : Expr} (h : Ev B A env l value (KEv B A env Ψ slice (zrI B A Ψ value slice Φ)) Ψ) : Ev B A env l (.Subscript value slice pos) Φ Ψ := .mk <| fun s G =>
 Subscript_ (zaE (h.go s G) (Ext.refl _) (fun v a l1 s1 x1 r1 G1 h1 => zaE (h1.go s1 G1) x1 (fun u b l2 s2 x2 r2 G2 h2 =>
  wpAny_mono (h2 s2 v u G2 (r1.mono x2) r2) (fun _ _ r => r.ext (x1.trans x2)) fun _ _ r => r.ext (x1.trans x2)) fun _ _ e => e) fun _ _ e => e)
theorem zjU {value slice : Expr} {xs : List AV} {k : Int} {j : Nat} {x : AV} (hj : seqIndex? k xs.length = some j) (hx : xs[j]? = some x) (hk : -(2 ^ 63) ≤ k ∧ k < 2 ^ 63) (h : Φ x l)
  (hs : ∀ o i, subscripted slice false o i = operate [o, i] (getItem o i)) : zjw B A value slice (.tup xs) (.int k) l Φ Ψ := fun s v u G r1 r2 => by
 cases r1; (refine xE r2.inv fun _ yq5 => ?_; subst yq5)
 rename_i a ys tp rs t
 refine xEA (rs.at hx) fun y hy ry => ?_
 exact item_tupleT (l := ys.toList) (by simpa using tp.isTup) hk.1 hk.2 (by rwa [rs.len]; exact hj) hy (.here ry G h) (hs _ _)
theorem zaP {a : Addr} {xs : List AV} {s : Shared} (G : zaB B l s) (hm : (a, zaa.list xs) ∈ l) : ∃ vs n, IsL s.heap a vs n ∧ VRs s.heap vs.toList xs := G.cells _ hm
theorem zda {value slice : Expr} {a : Addr} {xs : List AV} {k : Int} {x : AV} (hm : (a, zaa.list xs) ∈ l) (h0 : 0 ≤ k) (hk : k < 2 ^ 63) (hx : xs[k.toNat]? = some x) (h : Φ x l)
  (hs : ∀ o i, subscripted slice false o i = operate [o, i] (getItem o i)) : zjw B A value slice (.ref a) (.int k) l Φ Ψ := fun s v u G r1 r2 => by
 obtain rfl := r1.inv; (refine xE r2.inv fun _ yq6 => ?_; subst yq6)
 refine zbE (zaP G hm) fun vs n hl rs => ?_
 refine xEA (rs.at hx) fun y hy ry => ?_
 exact tail_any hl.isList.typeIs slot_list_getitem.lookup (wpAny_getItem_list hl.isList h0 hk (by simpa using hy) (.here ry G h)) (hs _ _)
theorem zcf {value slice : Expr} {a : Addr} {xs : List AV} {x : AV} (hm : (a, zaa.list (xs ++ [x])) ∈ l) (h : Φ x l)
  (hs : ∀ o i, subscripted slice false o i = operate [o, i] (getItem o i)) : zjw B A value slice (.ref a) (.int (-1)) l Φ Ψ := fun s v u G r1 r2 => by
 obtain rfl := r1.inv; (refine xE r2.inv fun _ yq7 => ?_; subst yq7)
 refine zbE (zaP G hm) fun vs n hl rs => ?_
 have hz : vs.size = xs.length + 1 := by have := rs.len; simpa using this
 refine xEA (rs.at (i := xs.length) (x := x) (by simp)) fun y hy ry => ?_
 refine tail_any hl.isList.typeIs slot_list_getitem.lookup (wpAny_getItem_list_neg hl.isList (by decide) (by walk_at "o") (by decide) ?_ (.here ry G h)) (hs _ _)
 have : ((-1 : Int) + (vs.size : Int)).toNat = xs.length := by walk_at "o"
 rwa [this]; simpa using hy
theorem zek {value slice : Expr} {a : Addr} {es : List (Str × AV)} {k : Str} {x : AV} (hm : (a, zaa.dict es) ∈ l) (hx : (k, x) ∈ es) (h : Φ x l)
  (hs : ∀ o i, subscripted slice false o i = operate [o, i] (getItem o i)) : zjw B A value slice (.ref a) (.str k) l Φ Ψ := fun s v u G r1 r2 => by
 obtain rfl := r1.inv; (refine xE r2.inv fun _ yq8 => ?_; subst yq8)
 refine xEA (G.cells _ hm) fun kvs yq9 rs => ?_
 obtain ⟨d, hsys⟩ := yq9
 refine xEA (rs.at (zaS d rs) hx) fun y hy ry => ?_
 exact tail_any d.typeIs slot_dict_getitem.lookup (wpAny_getItem_of (strKind_is B.prog B.w k _) d.mapOf hy (.tok ry G h)) (hs _ _)
theorem zmR {value slice : Expr} {x : Str} {k : Int} {c : Nat} (hr : -(2 ^ 63) ≤ k ∧ k < 2 ^ 63) (hc : (seqIndex? k x.length).bind (x.cps[·]?) = some c) (h : Φ (.str ⟨#[c]⟩) l)
  (hs : ∀ o i, subscripted slice false o i = operate [o, i] (getItem o i)) : zjw B A value slice (.str x) (.int k) l Φ Ψ := fun s v u G r1 r2 => by
 (refine xE r1.inv fun _ yq10 => ?_; subst yq10); (refine xE r2.inv fun _ yq11 => ?_; subst yq11)
 exact tail_any (typeIs_str s x _) slot_str_getitem.lookup (PyProof.Rows.getItem_str (by simp only [Bool.or_eq_false_iff, decide_eq_false_iff_not]; walk_at "o") hc (.tok .str G h)) (hs _ _)
noncomputable def zp4 (B : zan) (A : Around) (o i v : AV) (l : Led) (Φ : Unit → Led → Prop) (Ψ : XQ) : Prop :=
 ∀ s ov iv vv, zaB B l s → VR s.heap ov o → VR s.heap iv i → VR s.heap vv v → wpAny (model B.prog B.w) A (setItem ov iv vv) (Res B UR s.heap Φ) (Exn B s.heap Ψ) s
noncomputable abbrev zrS (B : zan) (A : Around) (Ψ : XQ) (Θ : Fl → Led → Prop) (v a b : AV) (l : Led) : Prop := zp4 B A a b v l (KN Θ) Ψ
noncomputable abbrev zrT (B : zan) (A : Around) (env : Env) (Ψ : XQ) (i : Expr) (Θ : Fl → Led → Prop) (v a : AV) (l : Led) : Prop := Ev B A env l i (zrS B A Ψ Θ v a) Ψ
noncomputable abbrev zrU (B : zan) (A : Around) (env : Env) (Ψ : XQ) (o i : Expr) (Θ : Fl → Led → Prop) (v : AV) (l : Led) : Prop := Ev B A env l o (zrT B A env Ψ i Θ v) Ψ
theorem zmg {o i e : Expr} {p : Pos} (h : Ev B A env l e (zrU B A env Ψ o i Θ) Ψ)
  (hs : swapsWith e (some (.Subscript o i p)) pos.line env = pure false := by rfl) : Ex1 B A env l (.Assign [.Subscript o i p] e pos) Θ Ψ := .mk <| fun s G =>
 wpAny_Assign_Subscript (zaE (h.go s G) (Ext.refl _) (fun v a l1 s1 x1 r1 G1 h1 => zaE (h1.go s1 G1) x1 (fun u b l2 s2 x2 r2 G2 h2 => zaE (h2.go s2 G2) (x1.trans x2) (fun w c l3 s3 x3 r3 G3 h3 =>
  wpAny_mono (h3 s3 u w v G3 (r2.mono x3) r3 (r1.mono (x2.trans x3))) (fun _ _ q0 => Res.el q0 fun x4 _ l4 _ G4 f => ⟨((x1.trans x2).trans x3).trans x4, _, l4, .next, G4, f⟩) fun _ _ r => r.ext ((x1.trans x2).trans x3)) fun _ _ e => e) fun _ _ e => e) fun _ _ e => e) hs
theorem VRs.set {h : Heap} {w : Value} {b : AV} (r : VR h w b) {vs : List Value} {xs : List AV} (rs : VRs h vs xs) (i : Nat) : VRs h (vs.set i w) (xs.set i b) :=
 VRs.ind (P := fun vs xs => ∀ i, VRs h (vs.set i w) (xs.set i b)) (fun _ => .nil) (fun _ _ _ _ q qs ih i => match i with
  | 0 => .cons r qs
  | i + 1 => .cons q (ih i)) rs i
theorem zhp {kvs : List (Str × Value)} {es : Array DictEntry} (p : Pairs (strKind B.prog B.w) es.toList kvs) (x : Str) : nsFind es x = valueAt kvs x := by
 rwa [← p.find x]
 obtain ⟨l⟩ := es
 unfold nsFind findBy
 rwa [List.find?_toArray]
 congr 1
 have e : (fun e : DictEntry => e.key.isStr x) = (fun e => (strKind B.prog B.w).is x e.key) := by funext e; show e.key.isStr x = Value.isStrOf x e.key; cases e.key <;> rfl
 rwa [e]
theorem zcw {es : Array DictEntry} (k : KeysOf (strKind B.prog B.w) es) : StrKeys es := fun e he => by
 refine xEA (k e he) fun x hx _ => ?_
 refine xE (Value.isStrOf_shape hx) fun t ht => ?_
 exact (iEE x t ht)
theorem zc3 {h : Heap} {d : Addr} {kvs : List (Str × Value)} (D : h.DictOf (strKind B.prog B.w) d kvs) : ∃ o, h.get? d = some o ∧ ∀ x, lookIn x o = some (valueAt kvs x) := by
 refine zbR D fun o es ep e _ hd hk hp _ => ?_
 clear D
 refine (iEA o e (fun x => ?_))
 unfold lookIn
 rwa [hd]
 dsimp only
 have hn := zhp (B := B) hp x
 unfold nsFind findBy at hn
 have e1 : es.toList.find? (fun e => e.key.isStr x) = es.find? (fun e => e.key.isStr x) := Array.find?_toList ..
 have none' : es.toList.any (·.refKey) = false := by
  rwa [List.any_eq_false]
  intro en he
  refine xEE (zcw hk en (Array.mem_toList_iff.mp he)) fun n t q => ?_
  simp [DictEntry.refKey, q]
 rwa [none', e1]
 cases q : es.find? (fun e => e.key.isStr x) with
 | none => rw [q] at hn; simp at hn; simp [← hn]
 | some en => rw [q] at hn; simp at hn; simp [← hn]
theorem zga {a C d : Addr} {es : List (Str × AV)} {s : Shared} (G : zaB B l s) (hi : (a, zaa.inst C d) ∈ l) (hd : (d, zaa.dict es) ∈ l) :
  ∃ kvs o, InstAt s.heap a (instObj C d) C (some o) ∧ s.heap.DictOf (strKind B.prog B.w) d kvs ∧ KvR s.heap kvs es ∧ s.heap.get? d = some o ∧ ∀ x, lookIn x o = some (valueAt kvs x) := by
 refine xEA (G.cells _ hd) fun kvs yq12 r => ?_
 obtain ⟨D, hsys⟩ := yq12
 refine xEA (zc3 D) fun o e hl => ?_
 exact ⟨kvs, o, ⟨G.cells _ hi, rfl, rfl, e⟩, D, r, e, hl⟩
noncomputable def zbN : AV → Bool
 | .bi n => (withoutEnding? n "#data").isNone
 | _ => true
theorem zeU {h : Heap} {v : Value} {a : AV} (r : VR h v a) (e : zbN a = true) : handedIn v = true := by
 revert e; refine VR.casesOn (motive_1 := fun v a _ => zbN a = true → handedIn v = true) r ?_ ?_ ?_ ?_ ?_ ?_ ?_ ?_ ?_ <;> intros <;> first | rfl | assumption
noncomputable def zaj (K : Frag) (C : Addr) : Bool := plainGet K C "" && hasDictIn K C && plainOver K C && (findIn K (.ref C) "__setattr__" == some (some (.builtin "object.__setattr__")))
theorem zbD {K : Frag} {C : Addr} (h : zaj K C = true) : findIn K (.ref C) "__getattribute__" = some (some (.builtin "object.__getattribute__")) ∧ findIn K (.ref C) "__getattr__" = some none ∧ hasDictIn K C = true ∧ plainOver K C = true ∧
  findIn K (.ref C) "__setattr__" = some (some (.builtin "object.__setattr__")) := by
 unfold zaj at h
 simp only [Bool.and_eq_true, beq_iff_eq] at h
 refine xA h fun yq13 h4 => ?_
 clear h
 obtain ⟨⟨h1, h2⟩, h3⟩ := yq13
 have := plainGet_of h1
 exact (zje this.1 this.2 h2 h3 h4)
noncomputable def zp5 (B : zan) (A : Around) (name : Str) (a : AV) (l : Led) (Φ : EQ) (Ψ : XQ) : Prop :=
 ∀ s v, zaB B l s → VR s.heap v a → wpAny (model B.prog B.w) A (getAttr v name true) (Res B VR s.heap Φ) (Exn B s.heap Ψ) s
theorem zaq {name : Str} {a C d : Addr} {es : List (Str × AV)} {x : AV} (hi : (a, zaa.inst C d) ∈ l) (hd : (d, zaa.dict es) ∈ l) (hx : (name, x) ∈ es) (h : Φ x l) (hp : zaj B.K C = true)
  (hn : findIn B.K (.ref C) name = some none) (hh : zbN x = true := by rfl) : zp5 B A name (.ref a) l Φ Ψ := fun s v G r => by
 obtain rfl := r.inv
 refine zct (zga G hi hd) fun kvs o I D rs _ hl => ?_
 refine xEA (rs.at (zaS D rs) hx) fun y hy ry => ?_
 refine ziH (zbD hp) fun p1 p2 p3 p4 p5 => ?_
 refine get_value G.kin I p1 ?_ (zeU ry hh) (.tok ry G h)
 refine xEA (any_some p3) fun cd hc hdi => ?_
 unfold findObj
 rwa [hc, Option.bind_some, hn, Option.bind_some]
 simp only [Option.bind_some]
 unfold PySem.W.ownOf
 rwa [hdi, if_pos rfl]
 dsimp only
 rwa [hl, hy]; rfl
noncomputable abbrev zrM (B : zan) (A : Around) (Ψ : XQ) (attr : Str) (Φ : EQ) (a : AV) (l : Led) : Prop := zp5 B A attr a l Φ Ψ
theorem zqx {value : Expr} {attr : Str} (h : Ev B A env l value (zrM B A Ψ attr Φ) Ψ)
  (he : eval (.Attribute value attr pos) env = (do
   let o ← eval value env
   standAt pos.atName
   let r ← holding [o] (getAttr o attr true)
   letTemporaryGo value o r
   pure r) := by walk_at "r") : Ev B A env l (.Attribute value attr pos) Φ Ψ := .mk <| fun s G =>
 Attribute_any_ (zaE (h.go s G) (Ext.refl _) (fun v a l1 s1 x1 r1 G1 h1 => wpAny_mono (h1 s1 v G1 r1) (fun _ _ r => r.ext x1) fun _ _ r => r.ext x1) fun _ _ e => e) he
theorem zao {pl : Sem Bool} {name : Str} {a C d f : Addr} {es : List (Str × AV)} {Φ : AV × List AV → Led → Prop} (hi : (a, zaa.inst C d) ∈ l) (hd : (d, zaa.dict es) ∈ l) (hf : findIn B.K (.ref C) name = some (some (.ref f))) (ht : isFn B.K (.ref f) = true)
  (hp : zaj B.K C = true) (hn : name ∉ es.map (·.1)) (h : Φ (.ref f, [.ref a]) l) : zkZ B A pl name (.ref a) l Φ Ψ := fun s v G r => by
 obtain rfl := r.inv
 refine zct (zga G hi hd) fun kvs o I D rs _ hl => ?_
 refine ziH (zbD hp) fun p1 p2 p3 p4 p5 => ?_
 refine method_fn G.kin I p1 p2 hf (beq_iff_eq.mp ht) ?_ ⟨Ext.refl _, (.ref f, [.ref a]), l, ⟨.ref, .cons .ref .nil⟩, G, h⟩
 unfold shadowIn
 dsimp only
 rwa [hl, zdU (by rwa [rs.keys]; exact hn)]; rfl
theorem zdX {h : Heap} {d : Addr} {kvs : List (Str × Value)} {name : Str} {t : Tok} {v : Value} (D : h.DictOf (strKind B.prog B.w) d kvs) :
  (h.update d (Obj.putName name (PyData.keyHash B.w.params name) (.str name t) v)).DictOf (strKind B.prog B.w) d (stored kvs name v) := by
 refine zbR D fun o es ep ho hc hd hk hp hn => ?_
 clear D
 have hkey := strKind_is B.prog B.w name t
 have hfun : (fun e : DictEntry => e.key.isStr name) = (fun e => (strKind B.prog B.w).is name e.key) := by funext e; show e.key.isStr name = Value.isStrOf name e.key; cases e.key <;> rfl
 have hidx : (es.toList.findIdx? fun e => (strKind B.prog B.w).is name e.key) = es.findIdx? fun e => (strKind B.prog B.w).is name e.key := by obtain ⟨l⟩ := es; simp
 obtain ⟨c, dd, dt, sl⟩ := o
 dsimp only at hd
 subst hd
 cases hi : es.findIdx? (fun e => (strKind B.prog B.w).is name e.key) with
 | some i =>
  have e1 : Obj.putName name (PyData.keyHash B.w.params name) (.str name t) v ⟨c, dd, .dict es ep, sl⟩ = ⟨c, dd, .dict (es.modify i fun e => { e with val := v }) ep, sl⟩ := by
   rwa [Obj.putName_eq]; unfold Obj.putNameByArray; rwa [hfun]; simp only [hi]
  have hl := hidx.trans hi
  have hany : (kvs.any fun kv => kv.1 = name) = true := any_of_findIdx_some (by rewrite [← hp.findIdx name]; exact hl)
  refine ⟨_, _, ep, Heap.get?_update_self _ ho (by rewrite [e1]; rfl), by rewrite [e1]; exact hc, by (rewrite [e1]; with_reducible rfl), hk.modify _ _, ?_, ?_⟩
  ·unfold stored; rwa [if_pos hany]
   have := hp.modify hn hl v
   simpa using this
  ·unfold stored; rwa [if_pos hany, keys_map_store]; exact hn
 | none =>
  have e1 : Obj.putName name (PyData.keyHash B.w.params name) (.str name t) v ⟨c, dd, .dict es ep, sl⟩ = ⟨c, dd, .dict (es.push ⟨PyData.keyHash B.w.params name, .str name t, v⟩) (ep + 1), sl⟩ := by
   rwa [Obj.putName_eq]; unfold Obj.putNameByArray; rwa [hfun]; simp only [hi]
  have hl := hidx.trans hi
  have hnm : name ∉ kvs.map (·.1) := not_mem_of_findIdx_none (by rewrite [← hp.findIdx name]; exact hl)
  have hs : stored kvs name v = kvs ++ [(name, v)] := by
   unfold stored; rwa [if_neg]
   intro q
   refine xEA (List.any_eq_true.mp q) fun p hp' e => ?_
   exact hnm (List.mem_map.mpr (iEA p hp' (by simpa using e)))
  rwa [hs]
  refine ⟨_, _, ep + 1, Heap.get?_update_self _ ho (by rewrite [e1]; rfl), by rewrite [e1]; exact hc, by (rewrite [e1]; with_reducible rfl), ?_, ?_, ?_⟩
  ·intro e he
   rcases Array.mem_push.mp he with he | rfl
   ·exact hk e he
   ·exact (iEA name hkey rfl)
  ·have := hp.append hkey (PyData.keyHash B.w.params name) v
   simpa using this
  ·rwa [List.map_append, List.nodup_append]
   exact (iAA hn (List.nodup_cons.mpr ⟨(nomatch ·), List.nodup_nil⟩) (fun a ha b hb => by rwa [List.mem_singleton.mp hb]; rintro rfl; exact hnm ha))
noncomputable def znW (B : zan) (A : Around) (name : Str) (o v : AV) (l : Led) (Φ : Unit → Led → Prop) (Ψ : XQ) : Prop :=
 ∀ s ov vv, zaB B l s → VR s.heap ov o → VR s.heap vv v → wpAny (model B.prog B.w) A (setAttr ov name vv) (Res B UR s.heap Φ) (Exn B s.heap Ψ) s
theorem zam {name : Str} {a C d : Addr} {es es' : List (Str × AV)} {v : AV} {g : zaa → Led} {Φ : Unit → Led → Prop} (hi : (a, zaa.inst C d) ∈ l) (hu : Up l d (.dict es) g) (hp : zaj B.K C = true) (ht : takerIn B.K C name = some none)
  (hst : ∀ {h : Heap} {kvs : List (Str × Value)} {vv : Value}, KvR h kvs es → (es.map (·.1)).Nodup → VR h vv v → KvR h (stored kvs name vv) es') (hz : es.length ≤ 1000) (h : Φ () (g (.dict es'))) : znW B A name (.ref a) v l Φ Ψ := fun s ov vv G r rv => by
 obtain rfl := r.inv
 refine zct (zga G hi hu.mem) fun kvs o I D rs he hl => ?_
 refine ziH (zbD hp) fun p1 p2 p3 p4 p5 => ?_
 refine xEA (any_some p3) fun cd hc hdi => ?_
 have D0 := D
 refine zbR D0 fun o1 es1 ep ho hcd hdat hk hpr hn => ?_
 clear D0
 have ho' : o1 = o := by rw [he] at ho; exact (Option.some.inj ho).symm
 subst ho'
 have hlen : es1.size = kvs.length := by have := hpr.length; simpa using this
 refine set_plain G.kin I p5 ?_
 refine osa_open (s := { s with toks := s.toks + 1 }) G.kin I p4 ht fun b => ?_
 refine wpAny_bind (wpAny_pure (wpAny_bind (wpAny_bind (wpAny_loadPart (G.cells _ hi) (wpAny_bind (looks_clsIn (G.toks (s.toks + 1)).kin hc _ _ _ _ (fun _ _ e => e) ?_))))))
 rwa [hdi]
 refine wpAny_pure (a := some d) (wpAny_bind (wpAny_pure (wpAny_bind ?_)))
 unfold nsSet
 refine wpAny_bind (wpAny_bind (wpAny_askSetting (wpAny_pure (wpAny_bind (wpAny_mkText (wpAny_bind (wpAny_loadPart ho ?_)))))))
 rwa [hdat]
 dsimp only
 have c : (!es1.any (·.key.isStr name) && es1.any (·.refKey)) = false := by
  have : es1.any (·.refKey) = false := by
   rwa [Array.any_eq_false']
   intro en hm
   refine xEE (zcw hk en hm) fun n t q => ?_
   simp [DictEntry.refKey, q]
  rwa [this, Bool.and_false]
 rwa [aRefKeyMayBeTheName_at, c]
 refine wpAny_updatePart ho ?_
 have D' := zdX (name := name) (t := s.toks + 1) (v := vv) D
 refine zbR (id D') fun o2 es2 ep2 ho2 _ hd2 _ hp2 _ => ?_
 have hlen2 : es2.size = (stored kvs name vv).length := by have := hp2.length; simpa using this
 have hsz : es2.size ≤ sizeLine + 1 := by
  have := stored_length_le kvs name vv
  have := rs.len
  rwa [hlen2, sizeLine_eq]; walk_at "o"
 refine wpAny_bind (wpAny_lookBehind ho2 (by rwa [hd2]; exact pastItsLine_dict hsz) ?_)
 have T := G.turn (c' := .dict es') hu (h' := s.heap.update d (Obj.putName name (PyData.keyHash B.w.params name) (.str name (s.toks + 1)) vv)) (fun b hb o e => (Heap.get?_update_other _ _ (Ne.symm hb)).trans e)
  (fun c E => ⟨_, ⟨D', by (refine xEA c fun _ yq14 _ => ?_; clear c; obtain ⟨_, q⟩ := yq14); exact q⟩, (hst (rs.mono E) (zaS D rs) (rv.mono E))⟩) (s.toks + 1 + 1)
 exact wpAny_pure ⟨T.2, (), _, trivial, T.1, h⟩
noncomputable abbrev zrO (B : zan) (A : Around) (Ψ : XQ) (attr : Str) (Θ : Fl → Led → Prop) (v a : AV) (l : Led) : Prop := znW B A attr a v l (KN Θ) Ψ
noncomputable abbrev zrP (B : zan) (A : Around) (env : Env) (Ψ : XQ) (o : Expr) (attr : Str) (Θ : Fl → Led → Prop) (v : AV) (l : Led) : Prop := Ev B A env l o (zrO B A Ψ attr Θ v) Ψ
theorem zla {o e : Expr} {attr : Str} {p : Pos} (h : Ev B A env l e (zrP B A env Ψ o attr Θ) Ψ)
  (hs : swapsWith e (some (.Attribute o attr p)) pos.line env = pure false := by rfl) : Ex1 B A env l (.Assign [.Attribute o attr p] e pos) Θ Ψ := .mk <| fun s G =>
 plainObj_wpAny_Assign_Attribute (zaE (h.go s G) (Ext.refl _) (fun v a l1 s1 x1 r1 G1 h1 => zaE (h1.go s1 G1) x1 (fun u b l2 s2 x2 r2 G2 h2 =>
  wpAny_mono (h2 s2 u v G2 r2 (r1.mono x2)) (fun _ _ q0 => Res.el q0 fun x3 _ l3 _ G3 f => ⟨(x1.trans x2).trans x3, _, l3, .next, G3, f⟩) fun _ _ r => r.ext (x1.trans x2)) fun _ _ e => e) fun _ _ e => e) hs
theorem ziE {o e : Expr} {attr : Str} {p : Pos} {op : Operator} (h : Ev B A env l o (fun a l1 => zp5 B A attr a l1 (fun old l2 => Ev B A env l2 e (fun v l3 => Op2 B A (inplaceOp op) old v l3 (fun new l4 => znW B A attr a new l4 (fun _ l5 => Θ .next l5) Ψ) Ψ) Ψ) Ψ) Ψ) :
  Ex1 B A env l (.AugAssign (.Attribute o attr p) op e pos) Θ Ψ := .mk <| fun s G =>
 wpAny_AugAssign_AttributeAny (zaE (h.go s G) (Ext.refl _) (fun ov a l1 s1 x1 r1 G1 h1 => zaE (h1 s1 ov G1 r1) x1 (fun old b l2 s2 x2 r2 G2 h2 => zaE (h2.go s2 G2) (x1.trans x2) (fun v c l3 s3 x3 r3 G3 h3 =>
  zaE (h3 s3 old v G3 (r2.mono x3) r3) ((x1.trans x2).trans x3) (fun new d l4 s4 x4 r4 G4 h4 => wpAny_mono (h4 s4 ov new G4 (r1.mono ((x2.trans x3).trans x4)) r4)
   (fun _ _ q0 => Res.el q0 fun x5 _ l5 _ G5 f => ⟨(((x1.trans x2).trans x3).trans x4).trans x5, _, l5, .next, G5, f⟩) fun _ _ r => r.ext (((x1.trans x2).trans x3).trans x4)) fun _ _ e => e) fun _ _ e => e) fun _ _ e => e) fun _ _ e => e)
end
section
variable {B : zan} {A : Around} {env : Env} {Ψ : XQ} {L : Addr} {ls gs : List Str} {cl fl : List (Str × Addr)} {l : Led} {Θ : Fl → Led → Prop} {pos : Pos} {Φ : EQ}
noncomputable def zp7 (B : zan) (A : Around) (env : Env) (Ψ : XQ) (r : List Stmt) (Θ : Fl → Led → Prop) (f : Fl) (l : Led) : Prop := match f with
 | .next => Ex B A env l r Θ Ψ
 | f => Θ f l
theorem zgc {r : List Stmt} (h : Ex B A env l r Θ Ψ) : zp7 B A env Ψ r Θ .next l := h
theorem zoJ {r : List Stmt} {a : AV} (h : Θ (.ret a) l) : zp7 B A env Ψ r Θ (.ret a) l := h
theorem zqC {r : List Stmt} (h : Θ .cont l) : zp7 B A env Ψ r Θ .cont l := h
theorem zai {st : Stmt} {r : List Stmt} (h : Ex1 B A env l st (zp7 B A env Ψ r Θ) Ψ) : Ex B A env l (st :: r) Θ Ψ := zns (.mk <| Tr.mono h.go (fun f l1 q => by cases f <;> exact q) fun _ _ q => q)
theorem zmL (Fo : zaf env L ls gs cl fl) {x : Str} (hx : x ∈ ls) {l : Led} {m : List (Str × Option AV)} (hm : (L, zaa.ns m) ∈ l) {v : AV} (hv : (x, some v) ∈ m) {pos : Pos} {Φ : EQ} (h : Φ v l) : Ev B A env l (.Name x pos) Φ Ψ :=
 zlW Fo.locals hm hv h Fo.kind (Fo.loc x hx) (Fo.dbg x (by simp [hx])).1
theorem zoa (Fo : zaf env L ls gs cl fl) {x : Str} (hx : x ∈ ls) {l : Led} {m : List (Str × Option AV)} (hm : (L, zaa.ns m) ∈ l) {v : AV} (hv : (x, some v) ∈ m) {Φ : EQ} (h : Φ v l) : Ld B A env l x Φ Ψ :=
 zjc Fo.locals hm hv h Fo.kind (Fo.loc x hx)
theorem zqS (Fo : zaf env L ls gs cl fl) {x : Str} {c : Addr} (hx : (x, c) ∈ cl) {l : Led} {v : AV} (hm : (c, zaa.cell (some v)) ∈ l) {pos : Pos} {Φ : EQ} (h : Φ v l) : Ev B A env l (.Name x pos) Φ Ψ :=
 znw (Fo.cel _ hx).1 hm h Fo.kind (Fo.cel _ hx).2 (Fo.dbg x (by simp only [List.mem_append, List.mem_map]; exact .inl (.inr (iEA _ hx rfl)))).1
theorem zgt (Fo : zaf env L ls gs cl fl) {x : Str} {c : Addr} (hx : (x, c) ∈ fl) {l : Led} {v : AV} (hm : (c, zaa.cell (some v)) ∈ l) {pos : Pos} {Φ : EQ} (h : Φ v l) : Ev B A env l (.Name x pos) Φ Ψ :=
 znv (Fo.fre _ hx).1 hm h Fo.kind (Fo.fre _ hx).2 (Fo.dbg x (by simp only [List.mem_append, List.mem_map]; exact .inr (iEA _ hx rfl))).1 (Fo.dbg x (by simp only [List.mem_append, List.mem_map]; exact .inr (iEA _ hx rfl))).2
noncomputable def zpS (B : zan) (x : Str) (a : AV) : Prop := ∃ v, nsIn B.K mainGlobals x = some (some v) ∧ ∀ h, B.K.In h → VR h v a
theorem zal (Fo : zaf env L ls gs cl fl) {x : Str} (hx : x ∈ gs) {a : AV} (hg : zpS B x a) {l : Led} {pos : Pos} {Φ : EQ} (h : Φ a l) : Ev B A env l (.Name x pos) Φ Ψ :=
 let ⟨v, e, r⟩ := hg
 zkO e r h Fo.kind (Fo.glo x hx) Fo.globals (Fo.dbg x (by simp [hx])).1
noncomputable def zqQ (B : zan) (x : Str) (a : AV) : Prop := ∃ v, nsIn B.K mainGlobals x = some none ∧ bootBuiltins x = some v ∧ x ≠ "__name__" ∧ ∀ h, VR h v a
theorem zah (Fo : zaf env L ls gs cl fl) {x : Str} (hx : x ∈ gs) {a : AV} (hg : zqQ B x a) {l : Led} {pos : Pos} {Φ : EQ} (h : Φ a l) : Ev B A env l (.Name x pos) Φ Ψ := .mk <| fun s G => by
 refine ziF hg fun v e hb hn r => ?_
 clear hg
 refine xEA B.bns fun mb Nb hmb => ?_
 refine wpAny_Name ?_ (Fo.dbg x (by simp [hx])).1
 rwa [loadName_read Fo.kind (Fo.glo x hx)]
 unfold loadGlobal
 rwa [Fo.globals, Fo.builtins]
 refine wpAny_bind ((looks_nsIn G.kin e).here ?_)
 dsimp only
 refine wpAny_bind (wpAny_nsGet (Nb.keeps G.base) ?_)
 rwa [hmb x hn, hb]
 exact wpAny_pure (.here (r _) G h)
theorem zfP (Fo : zaf env L ls gs cl fl) {x : Str} (hx : x ∈ ls) {l : Led} {m : List (Str × Option AV)} {g : zaa → Led} (hu : Up l L (.ns m) g) {v : Option AV} {f : Option AV → List (Str × Option AV)} (hn : UpN m x v f) {a : AV} {Φ : Unit → Led → Prop}
  (h : Φ () (g (.ns (f (some a))))) : St B A env x a l Φ Ψ := zlj Fo.locals hu hn h Fo.kind (Fo.loc x hx)
theorem zpU (Fo : zaf env L ls gs cl fl) {x : Str} {c : Addr} (hx : (x, c) ∈ cl) {l : Led} {v : Option AV} {g : zaa → Led} (hu : Up l c (.cell v) g) {a : AV} {Φ : Unit → Led → Prop}
  (h : Φ () (g (.cell (some a)))) : St B A env x a l Φ Ψ := zmS (Fo.cel _ hx).1 hu h Fo.kind (Fo.cel _ hx).2
theorem zjH {t : Bool} {P Q : Prop} (e : t = true) (h : P) : if t = true then P else Q := by rwa [if_pos e]; exact h
theorem znM {t : Bool} {P Q : Prop} (e : t = false) (h : Q) : if t = true then P else Q := by rwa [e]; exact h
theorem zce {t : Bool} {P Q : Prop} (h1 : t = true → P) (h2 : t = false → Q) : if t = true then P else Q := by
 cases h : t with
 | true => exact h1 h
 | false => exact h2 h
noncomputable def As (B : zan) (A : Around) (env : Env) (t : Expr) (a : AV) (l : Led) (Φ : Unit → Led → Prop) (Ψ : XQ) : Prop :=
 ∀ s u, zaB B l s → VR s.heap u a → wpAny (model B.prog B.w) A (assign t env u) (Res B UR s.heap Φ) (Exn B s.heap Ψ) s
theorem zqH {x : Str} {p : Pos} {a : AV} {Φ : Unit → Led → Prop} (h : St B A env x a l Φ Ψ) : As B A env (.Name x p) a l Φ Ψ := fun s u G r => PyProof.Rows.assign_Name (h s u G r)
noncomputable def AsL (B : zan) (A : Around) (env : Env) (ts : List Expr) (as : List AV) (l : Led) (Φ : Unit → Led → Prop) (Ψ : XQ) : Prop :=
 ∀ s vs, zaB B l s → VRs s.heap vs as → wpAny (model B.prog B.w) A (assignInOrder ((assignEach ts env).map (·.2)) vs) (Res B UR s.heap Φ) (Exn B s.heap Ψ) s
theorem zqG {Φ : Unit → Led → Prop} (h : Φ () l) : AsL B A env [] [] l Φ Ψ := fun s vs G r => by
 cases r; exact wpAny_pure (.here trivial G h)
noncomputable abbrev zrR (B : zan) (A : Around) (env : Env) (Ψ : XQ) (ts : List Expr) (as : List AV) (Φ : Unit → Led → Prop) (_ : Unit) (l : Led) : Prop := AsL B A env ts as l Φ Ψ
noncomputable abbrev zrQ (B : zan) (A : Around) (env : Env) (Ψ : XQ) (t : Expr) (Θ : Fl → Led → Prop) (a : AV) (l : Led) : Prop := As B A env t a l (KN Θ) Ψ
theorem zp3 {t : Expr} {ts : List Expr} {a : AV} {as : List AV} {Φ : Unit → Led → Prop} (h : As B A env t a l (zrR B A env Ψ ts as Φ) Ψ)
  (he : assignEach (t :: ts) env = (false, assign t env) :: assignEach ts env := by walk_at "r") : AsL B A env (t :: ts) (a :: as) l Φ Ψ := fun s vs G r => by
 revert vs; refine VRs.consA fun _ _ r rs => ?_
 ·rwa [he]
  refine wpAny_assignInOrder_more (zaE (h s _ G r) (Ext.refl _) (fun _ _ l1 s1 x1 _ G1 h1 => ?_) fun _ _ e => e)
  exact wpAny_mono (h1 s1 _ G1 (rs.mono x1)) (fun _ _ r => r.ext x1) fun _ _ r => r.ext x1
theorem zbF {h : Heap} {a : Addr} {xs : Array Value} (t : zfn h a xs) : h.IsTuple a xs := let ⟨n, e⟩ := t; ⟨_, e, rfl, n, rfl⟩
theorem zb2 : ∀ (ts : List Expr), (assignEach ts env).length = ts.length
 | [] => by walk_at "r"
 | t :: ts => by
  have := zb2 ts
  cases t <;> (show (_ :: assignEach ts env).length = _; rwa [List.length_cons, List.length_cons, this])
theorem zeX {s : Shared} (G : zaB B l s) {h' : Heap} (x : Heap.ExtBut s.heap.objs.size s.heap h') : zaB B l { s with heap := h' } ∧ Ext s.heap h' := by
 have k : ∀ b o, s.heap.get? b = some o → h'.get? b = some o := fun b o e => x b o (Nat.ne_of_lt (Heap.lt_size e)) e
 exact ⟨G.grow k s.toks, Ext.of_keeps k⟩
theorem zrm {ts : List Expr} {k : Nat} {p : Pos} {as : List AV} {Φ : Unit → Led → Prop} (hh : A.handled = none) (hn : ts.length = as.length) (h : AsL B A env ts as l Φ Ψ)
  (hs : (assignEach ts env).findIdx? (·.1) = none := by walk_at "r") : As B A env (.Tuple ts k p) (.tup as) l Φ Ψ := fun s u G r => by
 revert u; refine VR.tupA fun _ _ t rs => ?_
 ·refine wpAny_assign_Tuple hh (zbF t) ?_ hs fun h' x => ?_
  ·rwa [zb2, hn, ← rs.len, Array.length_toList]
  ·refine xA (zeX G x) fun G' E => ?_
   exact wpAny_mono (h _ _ G' (rs.mono E)) (fun _ _ r => r.ext E) fun _ _ r => r.ext E
theorem zaL {ts : List Expr} {k : Nat} {p : Pos} {e : Expr} (h : Ev B A env l e (zrQ B A env Ψ (.Tuple ts k p) Θ) Ψ)
  (hs : swapsWithSole [.Tuple ts k p] e pos.line env = pure false := by rfl) (hw : swappedStores [.Tuple ts k p] e env = pure none := by rfl) : Ex1 B A env l (.Assign [.Tuple ts k p] e pos) Θ Ψ := .mk <| fun s G =>
 PyProof.Rows.Assign_Tuple (zaE (h.go s G) (Ext.refl _) (fun v a l1 s1 x1 r1 G1 h1 => wpAny_mono (h1 s1 v G1 r1) (fun _ _ q0 => Res.el q0 fun x2 _ l2 _ G2 f => ⟨x1.trans x2, _, l2, .next, G2, f⟩) fun _ _ r => r.ext x1) fun _ _ e => e) hs hw
noncomputable def Sr (B : zan) (A : Around) (env : Env) (ns : List Str) (as : List AV) (l : Led) (Φ : Unit → Led → Prop) (Ψ : XQ) : Prop :=
 ∀ s vs, zaB B l s → VRs s.heap vs as → wpAny (model B.prog B.w) A (assignInOrder (ns.map fun n => bindName env n) vs) (Res B UR s.heap Φ) (Exn B s.heap Ψ) s
theorem zqT {Φ : Unit → Led → Prop} (h : Φ () l) : Sr B A env [] [] l Φ Ψ := fun s vs G r => by
 cases r; exact wpAny_pure (.here trivial G h)
noncomputable abbrev KSr (B : zan) (A : Around) (env : Env) (Ψ : XQ) (ns : List Str) (as : List AV) (Φ : Unit → Led → Prop) (_ : Unit) (l : Led) : Prop := Sr B A env ns as l Φ Ψ
theorem zqe {n : Str} {ns : List Str} {a : AV} {as : List AV} {Φ : Unit → Led → Prop} (h : St B A env n a l (KSr B A env Ψ ns as Φ) Ψ) : Sr B A env (n :: ns) (a :: as) l Φ Ψ := fun s vs G r => by
 revert vs; refine VRs.consA fun _ _ r rs => ?_
 ·refine wpAny_assignInOrder_more (wpAny_bindName (zaE (h s _ G r) (Ext.refl _) (fun _ _ l1 s1 x1 _ G1 h1 => ?_) fun _ _ e => e))
  exact wpAny_mono (h1 s1 _ G1 (rs.mono x1)) (fun _ _ r => r.ext x1) fun _ _ r => r.ext x1
theorem VRs.rev {h : Heap} {vs : List Value} {as : List AV} (r : VRs h vs as) : VRs h vs.reverse as.reverse :=
 VRs.ind (P := fun vs as => VRs h vs.reverse as.reverse) .nil (fun _ _ _ _ r _ ih => by rwa [List.reverse_cons, List.reverse_cons]; exact ih.append (.cons r .nil)) r
inductive zpH (B : zan) (A : Around) (env : Env) (Ψ : XQ) (names : List Str) (Θ : Fl → Led → Prop) (a : AV) (l : Led) : Prop
 | mk (as : List AV) (h1 : a = .tup as) (h2 : names.length = as.length) (h : Sr B A env names.reverse as.reverse l (KN Θ) Ψ) : zpH B A env Ψ names Θ a l
theorem zav {ts vs : List Expr} {names : List Str} {k k2 : Nat} {p p2 : Pos} (hh : A.handled = none) (hw : swappedStores [.Tuple ts k p] (.Tuple vs k2 p2) env = pure (some names))
  (h : Ev B A env l (.Tuple vs k2 p2) (zpH B A env Ψ names Θ) Ψ) : Ex1 B A env l (.Assign [.Tuple ts k p] (.Tuple vs k2 p2) pos) Θ Ψ := .mk <| fun s G =>
 PyProof.Rows.Assign_Tuple_swapped (zaE (h.go s G) (Ext.refl _) (fun v a l1 s1 x1 r1 G1 h1 => by
  obtain ⟨as, rfl, hn, h1⟩ := h1
  revert v; refine VR.tupA fun t xs t1 rs => ?_
  ·have : names.length = xs.size := by rwa [hn, ← rs.len, Array.length_toList]
   rwa [this]
   refine wpAny_unpackItems_tuple hh (zbF t1) fun h' x => ?_
   refine xA (zeX G1 x) fun G' E => ?_
   exact wpAny_mono (h1 _ _ G' (rs.mono E).rev) (fun _ _ q0 => Res.el q0 fun x2 _ l2 _ G2 f => ⟨(x1.trans E).trans x2, _, l2, .next, G2, f⟩) fun _ _ r => r.ext (x1.trans E)) fun _ _ e => e) rfl hw
noncomputable def zaD (env : Env) (line : Nat) : Expr → Option Str
 | .Name id pos => if env.kindOf id == some .local && pos.line == line then some id else none
 | _ => none
noncomputable def zif : Expr → Bool
 | .Starred .. => true
 | _ => false
noncomputable def swS (ts vs : List Expr) (env : Env) (names : List Str) : Sem (Option (List Str)) :=
 if !(ts.length == 2 || ts.length == 3) || vs.length != ts.length || env.blockKind != .function then pure none
 else if vs.any zif then pure none
 else if names.length != ts.length || names.eraseDups.length != names.length then pure none
 else if vs.all (foldedForSure 8) then pure none
 else if vs.all (constantsAlone 8) then (do let x ← unsupported "assign.tuple-of-constant-expressions:order-of-the-stores"; (fun (_ : PUnit) => pure (some names)) x)
 else pure (some names)
theorem zh0 {ts vs : List Expr} {k k2 : Nat} {tp vp : Pos} : swappedStores [.Tuple ts k tp] (.Tuple vs k2 vp) env = swS ts vs env (ts.filterMap (zaD env ((ts.head?.map (·.pos.line)).getD 0))) := by
 unfold swappedStores swS
 rfl
theorem zhZ {ts vs : List Expr} {names : List Str} (hk : env.scope.kind = .function) (ht : ts.length = 2 ∨ ts.length = 3) (hl : vs.length = ts.length) (h1 : vs.any zif = false) (hn : names.length = ts.length) (hd : names.eraseDups.length = names.length)
  (h2 : vs.all (foldedForSure 8) = false) (h3 : vs.all (constantsAlone 8) = false) : swS ts vs env names = pure (some names) := by
 have hbk : env.blockKind = .function := by unfold Env.blockKind; rwa [hk]; rfl
 unfold swS
 rwa [if_neg, if_neg, if_neg, if_neg, if_neg]
 ·rwa [h3]; exact Bool.false_ne_true
 ·rwa [h2]; exact Bool.false_ne_true
 ·simp [hn, hd]
 ·rwa [h1]; exact Bool.false_ne_true
 ·rwa [hbk, hl]; rcases ht with e | e <;> simp [e]
theorem za1 {a b : Str} {p q : Pos} {vs : List Expr} {k k2 : Nat} {tp vp : Pos} (hk : env.scope.kind = .function) (ha : env.kindOf a = some .local) (hb : env.kindOf b = some .local) (hp : q.line = p.line) (hab : (a == b) = false) (hl : vs.length = 2)
  (h1 : vs.any zif = false) (h2 : vs.all (foldedForSure 8) = false) (h3 : vs.all (constantsAlone 8) = false) : swappedStores [.Tuple [.Name a p, .Name b q] k tp] (.Tuple vs k2 vp) env = pure (some [a, b]) := by
 have e1 : ([a, b] : List Str).eraseDups.length = 2 := by
  simp [List.eraseDups_cons, beq_eq_false_iff_ne.mp hab, Ne.symm (beq_eq_false_iff_ne.mp hab)]
 rwa [zh0]
 have e2 : [Expr.Name a p, Expr.Name b q].filterMap (zaD env (([Expr.Name a p, Expr.Name b q].head?.map (·.pos.line)).getD 0)) = [a, b] := by
  show [Expr.Name a p, Expr.Name b q].filterMap (zaD env p.line) = [a, b]
  simp [zaD, ha, hb, hp]
 rwa [e2]
 exact zhZ hk (.inl rfl) hl h1 rfl e1 h2 h3
theorem zlh {a b c : Str} {p q r : Pos} {vs : List Expr} {k k2 : Nat} {tp vp : Pos} (hk : env.scope.kind = .function) (ha : env.kindOf a = some .local) (hb : env.kindOf b = some .local) (hc : env.kindOf c = some .local) (hp : q.line = p.line) (hr : r.line = p.line)
  (hab : (a == b) = false) (hac : (a == c) = false) (hbc : (b == c) = false) (hl : vs.length = 3)
  (h1 : vs.any zif = false) (h2 : vs.all (foldedForSure 8) = false) (h3 : vs.all (constantsAlone 8) = false) : swappedStores [.Tuple [.Name a p, .Name b q, .Name c r] k tp] (.Tuple vs k2 vp) env = pure (some [a, b, c]) := by
 have e1 : ([a, b, c] : List Str).eraseDups.length = 3 := by
  simp [List.eraseDups_cons, beq_eq_false_iff_ne.mp hab, Ne.symm (beq_eq_false_iff_ne.mp hab), beq_eq_false_iff_ne.mp hac, Ne.symm (beq_eq_false_iff_ne.mp hac), beq_eq_false_iff_ne.mp hbc, Ne.symm (beq_eq_false_iff_ne.mp hbc)]
 rwa [zh0]
 have e2 : [Expr.Name a p, Expr.Name b q, Expr.Name c r].filterMap (zaD env (([Expr.Name a p, Expr.Name b q, Expr.Name c r].head?.map (·.pos.line)).getD 0)) = [a, b, c] := by
  show [Expr.Name a p, Expr.Name b q, Expr.Name c r].filterMap (zaD env p.line) = [a, b, c]
  simp [zaD, ha, hb, hc, hp, hr]
 rwa [e2]
 exact zhZ hk (.inr rfl) hl h1 rfl e1 h2 h3
theorem zcv {ts vs : List Expr} {k k2 : Nat} {tp vp : Pos} (h : (ts.filterMap (zaD env ((ts.head?.map (·.pos.line)).getD 0))).length ≠ ts.length) : swappedStores [.Tuple ts k tp] (.Tuple vs k2 vp) env = pure none := by
 rwa [zh0]
 unfold swS
 split
 ·rfl
 ·split
  ·rfl
  ·rwa [if_pos (by simp [h])]
theorem zdr {s : Shared} {e : Value} {h0 : Heap} {Q : Value → Shared → Prop} (hΨ : ∀ X l, Ψ X l → ∃ outer, A.frames = some (env :: outer) ∧ FrL l (env :: outer)) (x : Exn B h0 Ψ e s) (hQ : ∀ e s', Exn B h0 Ψ e s' → Q e s') :
  notedBy (model B.prog B.w) A env (fun e s' => cameBackBy (model B.prog B.w) A env Q e s') e s := by
 refine zlc x fun x1 X l' yq15 m t G' hP => ?_
 clear x
 subst yq15
 refine xEA (hΨ _ _ hP) fun outer hfr F => ?_
 unfold notedBy
 refine wpAny_mono (zhq (E := fun e s' => cameBackBy (model B.prog B.w) A env Q e s') G' hfr F m t) (fun _ s1 q => ?_) fun _ _ q => q
 exact znF q.2.1 m q.2.2 fun s2 r => hQ _ _ ⟨(x1.trans q.1).trans r.1, X, l', rfl, m, r.2.2.at, r.2.1, hP⟩
inductive zjs (Inv : Nat → Led → Prop) (n : Nat) (l : Led) : Prop
 | mk (m : Nat) (l' : Led) (h1 : m < n) (h2 : Le l' l) (h3 : Inv m l') : zjs Inv n l
noncomputable def zrD (Inv : Nat → Led → Prop) (Θ : Fl → Led → Prop) (n : Nat) (f : Fl) (l : Led) : Prop := match f with
 | .next => zjs Inv n l
 | .cont => zjs Inv n l
 | .brk => Θ .next l
 | .ret a => Θ (.ret a) l
theorem zdy {t : Expr} {body : List Stmt} (Inv : Nat → Led → Prop) (n : Nat) (hΨ : ∀ X l, Ψ X l → ∃ outer, A.frames = some (env :: outer) ∧ FrL l (env :: outer)) (h0 : Inv n l)
  (turn : ∀ n l, Inv n l → Bv B A env l t (znY (ExL B A env Ψ (zrD Inv Θ n) body) (KNx Θ)) Ψ) : Ex1 B A env l (.While t body [] pos) Θ Ψ := .mk <| fun s G => by
 refine wpAny_While (codeAny_whileLoop (fun n s' => Ext s.heap s'.heap ∧ ∃ l', zaB B l' s' ∧ Inv n l') (fun n s1 hI => ?_) n (znS (Ext.refl _) l G h0))
 refine zn8 hI fun x1 l1 G1 h1 => ?_
 clear hI
 refine wpAny_mono ((turn n l1 h1).go s1 G1) (fun b s2 r => ?_) (fun e s2 q => zdr hΨ (q.ext x1) fun _ _ q => q)
 refine zeo r fun x2 b' l2 e G2 h2 => ?_
 clear r
 rwa [show b = b' from e]
 cases b' with
 | false => exact wpAny_pure ⟨x1.trans x2, .next, l2, .next, G2, h2⟩
 | true =>
  refine wpAny_mono ((znl h2).go s2 G2) (fun f s3 r => ?_) (fun e s2 q => zdr hΨ (q.ext (x1.trans x2)) fun _ _ q => q)
  refine zeo r fun x3 f' l3 rf G3 h3 => ?_
  clear r
  have x13 := (x1.trans x2).trans x3
  cases rf with
  | next => obtain ⟨m, l', hm, hle, hI⟩ := h3; exact (zmt m hm x13 l' (G3.le hle) hI)
  | cont => obtain ⟨m, l', hm, hle, hI⟩ := h3; exact (zmt m hm x13 l' (G3.le hle) hI)
  | brk => exact ⟨x13, .next, l3, .next, G3, h3⟩
  | ret r => exact ⟨x13, _, l3, .ret r, G3, h3⟩
structure zrV (B : zan) (A : Around) (T : Expr → Prop) (h0 : Heap) (I : Addr) (xs : List AV) (S : Nat → Led → Prop) (Req : Led → Prop) : Prop where
 next : ∀ i x ls l' s E, Ext h0 s.heap → xs[i]? = some x → S i ls → Req l' → zaB B (ls ++ l') s → wpAny (model B.prog B.w) A (pyNext (.ref I)) (fun r s' => ∃ v, r = some v ∧ Ext s.heap s'.heap ∧ VR s'.heap v x ∧
  ∀ t E, T t → wpAny (model B.prog B.w) A (letOwnedTupleGo t (.ref I) v) (fun _ s2 => ∃ ls2, Ext s'.heap s2.heap ∧ S (i + 1) ls2 ∧ zaB B (ls2 ++ l') s2) E s') E s
 stop : ∀ ls l' s E, Ext h0 s.heap → S xs.length ls → Req l' → zaB B (ls ++ l') s → wpAny (model B.prog B.w) A (pyNext (.ref I)) (fun r s' => r = none ∧ Ext s.heap s'.heap ∧ zaB B l' s') E s
 self : ∀ i ls l' s E (Q : Value → Shared → Prop), Ext h0 s.heap → S i ls → zaB B (ls ++ l') s → Q (.ref I) s → wpAny (model B.prog B.w) A (pyIter (.ref I)) Q E s
noncomputable def It (B : zan) (A : Around) (T : Expr → Prop) (a : AV) (xs : List AV) (Req : Led → Prop) (l l2 : Led) : Prop :=
 ∀ s v E, zaB B l s → VR s.heap v a → wpAny (model B.prog B.w) A (pyIter v) (fun r s' => ∃ I S ls, r = .ref I ∧ Ext s.heap s'.heap ∧ zrV B A T s'.heap I xs S Req ∧ S 0 ls ∧ zaB B (ls ++ l2) s') E s
inductive ziA (ls : Led) (Inv : Nat → Led → Prop) (n : Nat) (l : Led) : Prop
 | mk (l' : Led) (h1 : Le (ls ++ l') l) (h2 : Inv n l') : ziA ls Inv n l
noncomputable def zqJ (ls : Led) (Inv : Nat → Led → Prop) (Θ : Fl → Led → Prop) (n : Nat) (f : Fl) (l : Led) : Prop := match f with
 | .next => ziA ls Inv n l
 | .cont => ziA ls Inv n l
 | .brk => Θ .next l
 | .ret a => Θ (.ret a) l
theorem zhC {R : Result → Shared → Prop} {target it body orelse env} (I : Nat → Shared → Prop)
  (turn : ∀ n s, I n s → wpAny (model B.prog B.w) A (pyNext it) (fun r s₁ => match r with
   | none => wpAny (model B.prog B.w) A (execs orelse env) (fun f s₃ => R (.ok f) s₃) (notedBy (model B.prog B.w) A env fun e s' => R (.error e) s') s₁
   | some v => wpAny (model B.prog B.w) A (letOwnedTupleGo target it v) (fun _ s₁' => wpAny (model B.prog B.w) A (assign target env v) (fun _ s₂ => wpAny (model B.prog B.w) A (execs body env) (fun f s₃ => match f with
     | .next | .cont => ∃ m, m < n ∧ I m s₃
     | .brk => R (.ok .next) s₃
     | .ret v => R (.ok (.ret v)) s₃) (notedBy (model B.prog B.w) A env fun e s' => R (.error e) s') s₂) (notedBy (model B.prog B.w) A env fun e s' => R (.error e) s') s₁') (notedBy (model B.prog B.w) A env fun e s' => R (.error e) s') s₁) (notedBy (model B.prog B.w) A env fun e s' => R (.error e) s') s)
  (n : Nat) {s : Shared} (h : I n s) : codeAny (model B.prog B.w) A (.forLoop target it body orelse env) R s := by
 refine codeAny_loop' rfl I (fun n s hI => ?_) n h
 show wpAny _ _ ((forTurn target it body orelse env).onRaise (fun x => do noteFrame x env; theTreesLotGoes x)) _ _ s
 refine wpAny_noted ?_
 simp only [forTurn]
 refine wpAny_bind (wpAny_standAt (wpAny_bind (wpAny_onRaise (wpAny_mono (turn n s hI) (fun r s₁ h₁ => ?_) fun _ _ h' => wpAny_standAt h'))))
 cases r with
 | none => exact wpAny_pure (.inr ⟨rfl, codeAny_block h₁⟩)
 | some v =>
  refine wpAny_bind (wpAny_mono h₁ (fun _ s₁' h₁' => ?_) fun _ _ h' => h')
  refine wpAny_bind (wpAny_mono h₁' (fun _ s₂ h₂ => wpAny_bind (wpAny_mono h₂ (fun f s₃ h₃ => ?_) fun _ _ h' => h')) fun _ _ h' => h')
  cases f with
  | next => exact wpAny_pure (.inl ⟨rfl, h₃⟩)
  | cont => exact wpAny_pure (.inl ⟨rfl, h₃⟩)
  | brk => exact wpAny_pure h₃
  | ret v => exact wpAny_pure h₃
noncomputable abbrev zqP (B : zan) (A : Around) (env : Env) (Ψ : XQ) (Θ : Fl → Led → Prop) (ss : List Stmt) (_ : Unit) (l : Led) : Prop := Ex B A env l ss Θ Ψ
inductive zro (B : zan) (A : Around) (env : Env) (Ψ : XQ) (Θ : Fl → Led → Prop) (t : Expr) (body : List Stmt) (a : AV) (l1 : Led) : Prop
 | mk (xs : List AV) (Req : Led → Prop) (Inv : Nat → Led → Prop) (l2 : Led) (T : Expr → Prop) (h1 : It B A T a xs Req l1 l2) (h2 : T t) (h3 : Inv 0 l2) (h4 : ∀ i l', Inv i l' → Req l')
   (h5 : ∀ i x ls l', xs[i]? = some x → Inv i l' → As B A env t x (ls ++ l') (zqP B A env Ψ (zqJ ls Inv Θ (i + 1)) body) Ψ) (h6 : ∀ l', Inv xs.length l' → Θ .next l') : zro B A env Ψ Θ t body a l1
theorem zd9 {t iter : Expr} {body : List Stmt} (hΨ : ∀ X l, Ψ X l → ∃ outer, A.frames = some (env :: outer) ∧ FrL l (env :: outer))
  (h : Ev B A env l iter (zro B A env Ψ Θ t body) Ψ)
  (hs : ∀ x, foldedSetIterable iter env x = pure x := by intro _; rfl) : Ex1 B A env l (.For t iter body [] pos) Θ Ψ := .mk <| fun s G => by
 refine wpAny_For (zaE (h.go s G) (Ext.refl _) (fun a a' l1 s1 x1 r1 G1 h1 => ?_) fun _ _ e => e) hs
 obtain ⟨xs, Req, Inv, l2, T, hit, hTt, h0, hreq, turn, done⟩ := h1
 refine wpAny_mono (hit s1 a (fun e s' => Exn B s.heap Ψ e s') G1 r1) (fun r s2 q => ?_) fun _ _ q => q
 refine zfN q fun I S ls yq16 x2 It hS G2 => ?_
 clear q
 subst yq16
 refine zhC (fun n s' => Ext s.heap s'.heap ∧ Ext s2.heap s'.heap ∧ ∃ i ls l', i + n = xs.length ∧ S i ls ∧ Inv i l' ∧ zaB B (ls ++ l') s') (fun n s3 hI => ?_) xs.length ⟨(x1.trans x2), (Ext.refl _), 0, ls, l2, (by walk_at "o"), hS, h0, G2⟩
 refine zjB hI ?_; clear hI; intro x3 y3 i ls l' hi hS hI G3
 cases hx : xs[i]? with
 | none =>
  have : i = xs.length := by have := List.getElem?_eq_none_iff.mp hx; walk_at "o"
  subst this
  refine wpAny_mono (It.stop ls l' s3 _ y3 hS (hreq _ _ hI) G3) (fun r s4 q => ?_) fun _ _ q => q
  refine xAA q fun yq17 x4 G4 => ?_
  clear q
  subst yq17
  exact wpAny_pure ⟨x3.trans x4, .next, l', .next, G4, done _ hI⟩
 | some x =>
  refine wpAny_mono (It.next i x ls l' s3 _ y3 hx hS (hreq _ _ hI) G3) (fun r s4 q => ?_) fun _ _ q => q
  refine ziF q fun v yq18 x4 rv hlot => ?_
  clear q
  subst yq18
  refine wpAny_mono (hlot t _ hTt) (fun _ s5 q => ?_) fun _ _ q => q
  refine zdx q fun ls5 x5 hS5 G5 => ?_
  clear q
  have X5 := (x3.trans x4).trans x5
  refine wpAny_mono (turn i x ls5 l' hx hI s5 v G5 (rv.mono x5)) (fun _ s6 q => ?_) (fun e s6 q => zdr hΨ (q.ext X5) fun _ _ q => q)
  refine zeo q fun x6 _ l6 _ G6 h6 => ?_
  clear q
  refine wpAny_mono (h6.go s6 G6) (fun f s7 q => ?_) (fun e s6 q => zdr hΨ (q.ext (X5.trans x6)) fun _ _ q => q)
  refine zeo q fun x7 f' l7 rf G7 h7 => ?_
  clear q
  have X7 := (X5.trans x6).trans x7
  have hi' : i < xs.length := (List.getElem?_eq_some_iff.mp hx).1
  cases rf with
  | next => obtain ⟨l'', hle, hI'⟩ := h7; exact ⟨(n - 1), (by walk_at "o"), X7, ((((y3.trans x4).trans x5).trans x6).trans x7), (i + 1), ls5, l'', (by walk_at "o"), hS5, hI', (G7.le hle)⟩
  | cont => obtain ⟨l'', hle, hI'⟩ := h7; exact ⟨(n - 1), (by walk_at "o"), X7, ((((y3.trans x4).trans x5).trans x6).trans x7), (i + 1), ls5, l'', (by walk_at "o"), hS5, hI', (G7.le hle)⟩
  | brk => exact ⟨X7, .next, l7, .next, G7, h7⟩
  | ret r => exact ⟨X7, _, l7, .ret r, G7, h7⟩
theorem zh2 {a : Addr} {xs : List AV} {k : Int} {v : AV} {g : zaa → Led} {Φ : Unit → Led → Prop} (hu : Up l a (.list xs) g) (h0 : 0 ≤ k) (hk : k < xs.length) (hf : k < 2 ^ 63) (h : Φ () (g (.list (xs.set k.toNat v)))) : zp4 B A (.ref a) (.int k) v l Φ Ψ := fun s ov iv vv G r1 r2 r3 => by
 obtain rfl := r1.inv; (refine xE r2.inv fun _ yq19 => ?_; subst yq19)
 refine zbE (zaP G hu.mem) fun vs n hl rs => ?_
 have hz : vs.size = xs.length := by have := rs.len; simpa using this
 unfold setItem
 try with_reducible refine wpAny_holding ?_
 refine wpAny_bind (wpAny_sequenceKey hl.isList.typeIs (by decide) ?_)
 refine wpAny_bind (wpAny_callSpecial?_slot (name := Str.ofString "__setitem__") hl.isList.typeIs slot_list_setitem
  (wpAny_call_entry slot_list_setitem hl.isList.typeIs entry_list_setitem ?_ (args_list_setitem _ _ _)))
 show wpAny _ _ (Builtin.List.listSubscript? (.int k _) >>= _) _ _ s
 refine wpAny_bind (wpAny_listSubscript_int (fitsIndex_of h0 hf) ?_)
 refine xE (Int.eq_ofNat_of_zero_le h0) fun j yq20 => ?_
 subst yq20
 have hj : j < vs.size := by walk_at "o"
 show wpAny _ _ ((seqItemAt a j >>= fun r => pure (r.map (j, ·))) >>= _) _ _ s
 refine wpAny_bind (wpAny_bind (wpAny_seqItemAt hl rfl (wpAny_pure ?_)))
 rwa [Array.getElem?_eq_getElem hj]
 show wpAny _ _ (setSeqItemAt a j vv >>= _) _ _ s
 have T := G.turn (c' := .list (xs.set j v)) hu (h' := s.heap.update a (Obj.mapSeq (·.setIfInBounds j vv))) (fun b hb o e => (Heap.get?_update_other _ _ (Ne.symm hb)).trans e)
  (fun _ E => ⟨_, _, IsL.update hl _, by rwa [Array.toList_setIfInBounds]; exact VRs.set (r3.mono E) (rs.mono E) j⟩) s.toks
 have fin : Res B UR s.heap Φ () { s with heap := s.heap.update a (Obj.mapSeq (·.setIfInBounds j vv)) } := ⟨T.2, (), _, trivial, T.1, h⟩
 refine wpAny_bind (wpAny_setSeqItemAt hl rfl ?_)
 first
  | exact wpAny_bind (wpAny_pure (wpAny_pure (iEA .none rfl (wpAny_pure fin))))
  | exact wpAny_pure (iEA .none rfl (wpAny_pure fin))
end
section
open PySem PySem.W PyProof.Rows PySem.Calls PySem.SeqAt
noncomputable def eqN : AV → Bool
 | .none => true
 | _ => false
noncomputable def eqB (x : Bool) : AV → Bool
 | .bool y => x == y
 | .int y => (if x then 1 else 0) == y
 | _ => false
noncomputable def eqI (x : Int) : AV → Bool
 | .bool y => x == (if y then 1 else 0)
 | .int y => x == y
 | _ => false
noncomputable def eqS (x : Str) : AV → Bool
 | .str y => x == y
 | _ => false
mutual
noncomputable def zd8 : AV → AV → Bool
 | .none, b => eqN b
 | .bool x, b => eqB x b
 | .int x, b => eqI x b
 | .str x, b => eqS x b
 | .tup l, b => match b with
  | .tup m => zej l m
  | _ => false
 | _, _ => false
noncomputable def zej : List AV → List AV → Bool
 | [], m => m.isEmpty
 | a :: l, m => match m with
  | [] => false
  | b :: m => zd8 a b && zej l m
end
mutual
noncomputable def zau : AV → Bool
 | .none => true
 | .bool _ => true
 | .int _ => true
 | .str _ => true
 | .tup l => zaw l
 | _ => false
noncomputable def zaw : List AV → Bool
 | [] => true
 | a :: l => zau a && zaw l
end
mutual
noncomputable def zaH : AV → Nat
 | .tup l => zaG l + 1
 | _ => 0
noncomputable def zaG : List AV → Nat
 | [] => 0
 | a :: l => max (zaH a) (zaG l)
end
noncomputable def zgR : Option AV → Option AV → Bool
 | some a, some b => zd8 a b
 | _, _ => false
theorem ze5 : ∀ (l m : List AV), ((List.range (min l.length m.length)).all (fun j => zgR l[j]? m[j]?) && l.length == m.length) = zej l m
 | [], [] => by simp [zej]
 | [], b :: m => by simp [zej]
 | a :: l, [] => by simp [zej]
 | a :: l, b :: m => by
  have ih := ze5 l m
  have e : min (a :: l).length (b :: m).length = min l.length m.length + 1 := Nat.succ_min_succ _ _
  rwa [e, List.range_succ_eq_map, List.all_cons, List.all_map]
  have e2 : (List.range (min l.length m.length)).all ((fun j => zgR (a :: l)[j]? (b :: m)[j]?) ∘ Nat.succ) = (List.range (min l.length m.length)).all (fun j => zgR l[j]? m[j]?) := by congr 1
  rwa [e2]
  have e3 : ((a :: l).length == (b :: m).length) = (l.length == m.length) := by simp
  rwa [e3, Bool.and_assoc, ih]
  rfl
theorem zaI : ∀ {l : List AV} {x : AV}, zaw l = true → x ∈ l → zau x = true
 | a :: l, x, h, hm => by
  unfold zaw at h
  rw [Bool.and_eq_true] at h
  refine mcE hm ?_ fun m hm => ?_
  ·exact h.1
  ·exact zaI h.2 hm
theorem za4 : ∀ {l : List AV} {x : AV}, x ∈ l → zaH x ≤ zaG l
 | a :: l, x, hm => by
  unfold zaG
  refine mcE hm ?_ fun m hm => ?_
  ·walk_at "o"
  ·have := za4 hm; walk_at "o"
mutual
theorem zdv : ∀ {a : AV}, zau a = true → zd8 a a = true
 | .none, _ => rfl
 | .bool b, _ => beq_self_eq_true b
 | .int i, _ => beq_self_eq_true i
 | .str s, _ => beq_self_eq_true s
 | .tup l, h => zfL (l := l) h
 | .bytes _, h => by cases h
 | .ty _, h => by cases h
 | .bi _, h => by cases h
 | .ref _, h => by cases h
theorem zfL : ∀ {l : List AV}, zaw l = true → zej l l = true
 | [], _ => rfl
 | a :: l, h => by
  have h := Bool.and_eq_true_iff.mp (show (zau a && zaw l) = true from h)
  exact Bool.and_eq_true_iff.mpr ⟨zdv h.1, zfL h.2⟩
end
theorem VR.plA {h : Heap} {G : Value → AV → Prop} (h0 : G .none .none) (h1 : ∀ b, G (.bool b) (.bool b)) (h2 : ∀ i t, G (.int i t) (.int i)) (h3 : ∀ s t, G (.str s t) (.str s))
  (h4 : ∀ p xs l, zfn h p xs → VRs h xs.toList l → zaw l = true → G (.ref p) (.tup l)) : ∀ v a, VR h v a → zau a = true → G v a := fun v a r hp =>
 VR.casesOn (motive_1 := fun v a _ => zau a = true → G v a) r (fun _ => h0) (fun _ => h1 _) (fun _ => h2 _ _) (fun _ => h3 _ _) (fun e => xB e) (fun e => xB e) (fun e => xB e) (fun e => xB e) (fun t rs hp => h4 _ _ _ t rs hp) hp
theorem u0 {a b c n : Nat} (h : a + b + c < n) : a < n := Nat.lt_of_le_of_lt (Nat.le_trans (Nat.le_add_right a b) (Nat.le_add_right _ c)) h
noncomputable def zqY (h : Heap) (b : AV) : Value → Prop
 | .none => b = .none
 | .bool c => b = .bool c
 | .int i _ => b = .int i
 | .str s _ => b = .str s
 | .ref p => zau b = true → ∃ l xs, b = .tup l ∧ zfn h p xs ∧ VRs h xs.toList l
 | _ => True
theorem VR.invv {h : Heap} {v : Value} {b : AV} (r : VR h v b) : zqY h b v := by
 refine VR.casesOn (motive_1 := fun v b _ => zqY h b v) r ?_ ?_ ?_ ?_ ?_ ?_ ?_ (fun q => xB q) (fun t rs _ => ⟨_, _, rfl, t, rs⟩) <;> intros <;> first | exact rfl | exact trivial
theorem zfn.det {h : Heap} {p : Addr} {xs ys : Array Value} (t : zfn h p xs) (t' : zfn h p ys) : xs = ys :=
 t.elim fun _ e => t'.elim fun _ e' => (Data.seq.inj (congrArg Obj.data (Option.some.inj (e.symm.trans e')))).1
theorem VR.det {h : Heap} {v : Value} {a b : AV} (r : VR h v a) (r' : VR h v b) (ha : zau a = true) (hb : zau b = true) : a = b :=
 VR.rec (motive_1 := fun v a _ => ∀ b, VR h v b → zau a = true → zau b = true → a = b) (motive_2 := fun vs l _ => ∀ m, VRs h vs m → zaw l = true → zaw m = true → l = m)
  (fun _ q _ _ => q.invv.symm) (fun _ q _ _ => q.invv.symm) (fun _ q _ _ => q.invv.symm) (fun _ q _ _ => q.invv.symm) (fun _ _ h _ => xB h) (fun _ _ h _ => xB h) (fun _ _ h _ => xB h) (fun _ _ h _ => xB h)
  (fun t _ ih b q ha hb => zbS (q.invv hb) fun l ys e t' rs => (congrArg AV.tup (ih l (t.det t' ▸ rs) ha (e ▸ hb : zau (.tup l) = true))).trans e.symm)
  (fun m q _ _ => by cases q; rfl)
  (fun _ _ r rs m q ha hb => by
   cases q with
   | cons q qs =>
    have ha := Bool.and_eq_true_iff.mp ha
    have hb := Bool.and_eq_true_iff.mp hb
    rwa [r _ q ha.1 hb.1, rs _ qs ha.2 hb.2]) r b r' ha hb
theorem VRs.atv {h : Heap} {vs : List Value} {as : List AV} (r : VRs h vs as) {j : Nat} (hj : j < vs.length) : ∃ x, as[j]? = some x ∧ VR h vs[j] x := by
 have hj' : j < as.length := by rwa [← r.len]; exact hj
 refine xEA (r.at (List.getElem?_eq_getElem hj')) fun u e q => ?_
 rw [List.getElem?_eq_getElem hj] at e
 cases e
 exact (iEA _ (List.getElem?_eq_getElem hj') q)
theorem VRs.atA {h : Heap} {vs : Array Value} {as : List AV} (r : VRs h vs.toList as) {j : Nat} (hj : j < vs.size) : ∃ x, as[j]? = some x ∧ VR h vs[j] x := by
 refine xEA (r.atv (j := j) (by simpa using hj)) fun x e q => ?_
 exact (iEA x e (by simpa using q))
theorem zhF {A : Around} {s : Shared} {xs ys : Array Value} {l m : List AV} (rs : VRs s.heap xs.toList l) (rs' : VRs s.heap ys.toList m) :
  ((List.range (min xs.size ys.size)).all (fun j => zgR l[j]? m[j]?) && xs.size == ys.size) = zej l m := by
 have e1 : xs.size = l.length := by have := rs.len; simpa using this
 have e2 : ys.size = m.length := by have := rs'.len; simpa using this
 rwa [e1, e2]; exact ze5 l m
theorem zlY {s : Shared} (n : Nat) : ∀ {A : Around} {v u : Value} {a b : AV}, zaH a ≤ n → VR s.heap v a → VR s.heap u b → zau a = true → zau b = true → A.units + zaH a + zaH b < cLine → EqAt A s v u (zd8 a b) := by
 induction n using Nat.strongRecOn with
 | ind n ih =>
  intro A v u a b hd ra rb ha hb hu
  suffices H : ∀ v a, VR s.heap v a → zau a = true → ∀ u b, VR s.heap u b → zau b = true → zaH a ≤ n → A.units + zaH a + zaH b < cLine → EqAt A s v u (zd8 a b) from H v a ra ha u b rb hb hd hu
  clear hu hb ha rb ra hd
  exact
  VR.plA
   (VR.plA (fun _ _ => EqAt.same _) (fun _ _ _ => EqAt.none_bool _) (fun _ _ _ _ => EqAt.none_int _ _) (fun _ _ _ _ => EqAt.none_str _ _) (fun _ _ _ t _ _ _ hu => EqAt.none_tuple (zbF t) (u0 hu)))
   (fun _ => VR.plA (fun _ _ => EqAt.bool_none _) (fun _ _ _ => EqAt.bool_bool _ _) (fun _ _ _ _ => EqAt.bool_int _ _ _) (fun _ _ _ _ => EqAt.bool_str _ _ _) (fun _ _ _ t _ _ _ hu => EqAt.bool_tuple _ (zbF t) (u0 hu)))
   (fun _ _ => VR.plA (fun _ _ => EqAt.int_none _ _) (fun _ _ _ => EqAt.int_bool _ _ _) (fun _ _ _ _ => EqAt.int_int _ _ _ _) (fun _ _ _ _ => EqAt.int_str _ _ _ _) (fun _ _ _ t _ _ _ hu => EqAt.int_tuple _ _ (zbF t) (u0 hu)))
   (fun _ _ => VR.plA (fun _ _ => EqAt.str_none _ _) (fun _ _ _ => EqAt.str_bool _ _ _) (fun _ _ _ _ => EqAt.str_int _ _ _ _) (fun _ _ _ _ => EqAt.str_str _ _ _ _) (fun _ _ _ t _ _ _ hu => EqAt.str_tuple _ _ (zbF t) (u0 hu)))
   (fun x xs l t rs ha => VR.plA (fun _ hu => EqAt.tuple_none (zbF t) (u0 hu)) (fun _ _ hu => EqAt.tuple_bool _ (zbF t) (u0 hu)) (fun _ _ _ hu => EqAt.tuple_int _ _ (zbF t) (u0 hu)) (fun _ _ _ hu => EqAt.tuple_str _ _ (zbF t) (u0 hu)) (fun y ys m t2 rs2 hb hd hu => by
    by_cases e : x = y
    ·subst e
     have q := VR.det (.tup t rs) (.tup t2 rs2) ha hb
     rwa [q, zdv (a := .tup m) hb]; exact EqAt.same _
    ·refine EqAt.of_refs e ?_
     have := RcAt.tuples (A := A) (e := fun j => zgR l[j]? m[j]?) (zbF t) (zbF t2) (u0 hu) (fun j h1 h2 => by
      refine xEA (rs.atA h1) fun p e1 r1 => ?_
      refine xEA (rs2.atA h2) fun q e2 r2 => ?_
      rwa [e1, e2]
      have hp := List.mem_of_getElem? e1
      have hq := List.mem_of_getElem? e2
      have d1 := za4 hp
      have d2 := za4 hq
      unfold zaH at hd hu
      exact ih (n - 1) (by walk_at "o") (by walk_at "o") r1 r2 (zaI ha hp) (zaI hb hq) (by show A.units + 1 + _ + _ < _; walk_at "o"))
     rw [zhF (A := A) rs rs2] at this
     exact this))
theorem zm4 {s : Shared} {A : Around} {v u : Value} {a b : AV} (ra : VR s.heap v a) (rb : VR s.heap u b) (ha : zau a = true) (hb : zau b = true) (hu : A.units + zaH a + zaH b < cLine) : RcNeAt A s v u (!zd8 a b) := by
 suffices H : ∀ v a, VR s.heap v a → zau a = true → ∀ u b, VR s.heap u b → zau b = true → A.units + zaH a + zaH b < cLine → RcNeAt A s v u (!zd8 a b) from H v a ra ha u b rb hb hu
 clear hu hb ha rb ra
 exact
  VR.plA
   (VR.plA (fun _ => RcNeAt.none_none) (fun _ _ => RcNeAt.none_bool _) (fun _ _ _ => RcNeAt.none_int _ _) (fun _ _ _ => RcNeAt.none_str _ _) (fun _ _ _ t _ _ hu => RcNeAt.none_tuple (zbF t) (u0 hu)))
   (fun _ => VR.plA (fun _ => RcNeAt.bool_none _) (fun _ _ => RcNeAt.bool_bool _ _) (fun _ _ _ => RcNeAt.bool_int _ _ _) (fun _ _ _ => RcNeAt.bool_str _ _ _) (fun _ _ _ t _ _ hu => RcNeAt.bool_tuple _ (zbF t) (u0 hu)))
   (fun _ _ => VR.plA (fun _ => RcNeAt.int_none _ _) (fun _ _ => RcNeAt.int_bool _ _ _) (fun _ _ _ => RcNeAt.int_int _ _ _ _) (fun _ _ _ => RcNeAt.int_str _ _ _ _) (fun _ _ _ t _ _ hu => RcNeAt.int_tuple _ _ (zbF t) (u0 hu)))
   (fun _ _ => VR.plA (fun _ => RcNeAt.str_none _ _) (fun _ _ => RcNeAt.str_bool _ _ _) (fun _ _ _ => RcNeAt.str_int _ _ _ _) (fun _ _ _ => RcNeAt.str_str _ _ _ _) (fun _ _ _ t _ _ hu => RcNeAt.str_tuple _ _ (zbF t) (u0 hu)))
   (fun x xs l t rs ha => VR.plA (fun hu => RcNeAt.tuple_none (zbF t) (u0 hu)) (fun _ hu => RcNeAt.tuple_bool _ (zbF t) (u0 hu)) (fun _ _ hu => RcNeAt.tuple_int _ _ (zbF t) (u0 hu)) (fun _ _ hu => RcNeAt.tuple_str _ _ (zbF t) (u0 hu)) (fun y ys m t2 rs2 hb hu => by
    have := RcNeAt.tuples (A := A) (e := fun j => zgR l[j]? m[j]?) (zbF t) (zbF t2) (u0 hu) (fun j h1 h2 => by
     refine xEA (rs.atA h1) fun p e1 r1 => ?_
     refine xEA (rs2.atA h2) fun q e2 r2 => ?_
     rwa [e1, e2]
     have hp := List.mem_of_getElem? e1
     have hq := List.mem_of_getElem? e2
     have d1 := za4 hp
     have d2 := za4 hq
     unfold zaH at hu
     exact zlY _ (Nat.le_refl _) r1 r2 (zaI ha hp) (zaI hb hq) (by show A.units + 1 + _ + _ < _; walk_at "o"))
    rw [zhF (A := A) rs rs2] at this
    exact this))
section
variable {B : zan} {A : Around} {env : Env} {Ψ : XQ} {l : Led} {Θ : Fl → Led → Prop} {pos : Pos} {Φ : EQ}
theorem zcy {a b : AV} (ha : zau a = true) (hb : zau b = true) (hu : A.units + zaH a + zaH b < cLine) (h : Φ (.bool (!zd8 a b)) l) : Op2 B A (compareOp .NotEq) a b l Φ Ψ := fun s v u G r1 r2 =>
 zm4 r1 r2 ha hb hu _ _ _ _ (.here .bool G h)
theorem zkf {x y : Addr} {xs : List AV} (hx : (x, zaa.list xs) ∈ l) (hy : (y, zaa.list []) ∈ l) (hu : A.units < cLine) (h : Φ (.bool xs.isEmpty) l) : Op2 B A (compareOp .Eq) (.ref x) (.ref y) l Φ Ψ := fun s v u G r1 r2 => by
 obtain rfl := r1.inv; obtain rfl := r2.inv
 refine zbE (zaP G hx) fun vs n hl rs => ?_
 refine zbE (zaP G hy) fun ws m hl' rs' => ?_
 have e1 : vs.size = xs.length := by have := rs.len; simpa using this
 have e2 : ws.size = 0 := by have := rs'.len; simpa using this
 cases xs with
 | nil => exact eq_listAt (e := fun _ => true) hl.isList hl'.isList (by rwa [e1, e2]; rfl) hu (fun j h1 _ => by rw [e1] at h1; exact absurd h1 (Nat.not_lt_zero _)) (by
   have : ((List.range vs.size).all fun _ => true) = true := by simp
   rwa [this]; exact .here .bool G h)
 | cons a t => exact eq_list_lengthsAt hl.isList hl'.isList (by rwa [e1, e2]; simp) hu (.here .bool G h)
theorem zbT {x y : Addr} {xs : List AV} (hx : (x, zaa.list xs) ∈ l) (hy : (y, zaa.list []) ∈ l) (hu : A.units < cLine) (h : Φ (.bool (!xs.isEmpty)) l) : Op2 B A (compareOp .NotEq) (.ref x) (.ref y) l Φ Ψ := fun s v u G r1 r2 => by
 obtain rfl := r1.inv; obtain rfl := r2.inv
 refine zbE (zaP G hx) fun vs n hl rs => ?_
 refine zbE (zaP G hy) fun ws m hl' rs' => ?_
 have e1 : vs.size = xs.length := by have := rs.len; simpa using this
 have e2 : ws.size = 0 := by have := rs'.len; simpa using this
 cases xs with
 | nil => exact RcNeAt.lists (e := fun _ => true) hl.isList hl'.isList (by rwa [e1, e2]; rfl) hu (fun j h1 _ => by rw [e1] at h1; exact absurd h1 (Nat.not_lt_zero _)) _ _ _ _ (by
   have : (!(List.range vs.size).all fun _ => true) = false := by simp
   rwa [this]; exact .here .bool G h)
 | cons a t => exact RcNeAt.lists_lengths hl.isList hl'.isList (by rwa [e1, e2]; simp) hu _ _ _ _ (.here .bool G h)
theorem zi5 {x y : Addr} {xs ys : List AV} (hx : (x, zaa.list xs) ∈ l) (hy : (y, zaa.list ys) ∈ l) (px : zaw xs = true) (py : zaw ys = true) (hu : A.units + zaG xs + zaG ys + 1 < cLine) (h : Φ (.bool (zej xs ys)) l) : Op2 B A (compareOp .Eq) (.ref x) (.ref y) l Φ Ψ := fun s v u G r1 r2 => by
 obtain rfl := r1.inv; obtain rfl := r2.inv
 refine zbE (zaP G hx) fun vs n hl rs => ?_
 refine zbE (zaP G hy) fun ws m hl' rs' => ?_
 have e1 : vs.size = xs.length := by have := rs.len; simpa using this
 have e2 : ws.size = ys.length := by have := rs'.len; simpa using this
 have key := zhF (A := A) rs rs'
 by_cases q : vs.size = ws.size
 ·refine eq_listAt (e := fun j => zgR xs[j]? ys[j]?) hl.isList hl'.isList q (by walk_at "o") (fun j h1 h2 => ?_) ?_
  ·refine xEA (rs.atA h1) fun p e1 r1 => ?_
   refine xEA (rs'.atA h2) fun q e2 r2 => ?_
   rwa [e1, e2]
   have hp := List.mem_of_getElem? e1
   have hq := List.mem_of_getElem? e2
   have d1 := za4 hp
   have d2 := za4 hq
   exact zlY _ (Nat.le_refl _) r1 r2 (zaI px hp) (zaI py hq) (by show A.units + 1 + _ + _ < _; walk_at "o")
  ·rw [← q, Nat.min_self] at key
   have : ((List.range vs.size).all fun j => zgR xs[j]? ys[j]?) = zej xs ys := by
    rwa [← key]; simp
   rwa [this]; exact .here .bool G h
 ·have : zej xs ys = false := by rwa [← key]; simp [q]
  rw [this] at h
  exact eq_list_lengthsAt hl.isList hl'.isList (by simp [q]) (by walk_at "o") (.here .bool G h)
theorem VRs.mem_at {h : Heap} {vs : List Value} {as : List AV} (rs : VRs h vs as) {y : Value} (hy : y ∈ vs) : ∃ a ∈ as, VR h y a :=
 VRs.ind (P := fun vs as => y ∈ vs → ∃ a ∈ as, VR h y a) (fun h => nomatch h) (fun v a vs l r _ ih hy => (List.mem_cons.mp hy).elim (fun e => ⟨a, .head _, e ▸ r⟩) fun h => xEA (ih h) fun a ha q => ⟨a, .tail _ ha, q⟩) rs hy
theorem zpE {h : Heap} {x : AV} (hpx : zau x = true) {f : Value → Bool} {vs : List Value} {as : List AV} (rs : VRs h vs as) (hp : zaw as = true) (hf : ∀ y a, y ∈ vs → a ∈ as → VR h y a → f y = zd8 a x) : vs.any f = as.any fun a => zd8 a x :=
 VRs.ind (P := fun vs as => zaw as = true → (∀ y a, y ∈ vs → a ∈ as → VR h y a → f y = zd8 a x) → vs.any f = as.any fun a => zd8 a x) (fun _ _ => rfl) (fun v a vs l r _ ih hp hf => by
  rwa [List.any_cons, List.any_cons, hf _ _ (.head _) (.head _) r, ih (Bool.and_eq_true_iff.mp hp).2 fun y a hy ha q => hf y a (.tail _ hy) (.tail _ ha) q]) rs hp hf
open Classical in
theorem zkC {s : Shared} {vs : List Value} {as : List AV} {u : Value} {x : AV} (rs : VRs s.heap vs as) (rx : VR s.heap u x) (hp : zaw as = true) (hpx : zau x = true) (hu : A.units + zaG as + zaH x + 1 < cLine) :
  ∃ f : Value → Bool, (∀ y ∈ vs, EqAt A.in1 s y u (f y)) ∧ vs.any f = as.any fun a => zd8 a x := by
 refine (iEA (fun y => if hy : ∃ a, a ∈ as ∧ VR s.heap y a then zd8 hy.choose x else false) (fun y hy => ?_) ?_)
 ·refine xEA (rs.mem_at hy) fun a ha q => ?_
  have hex : ∃ a, a ∈ as ∧ VR s.heap y a := (iEA a ha q)
  show EqAt A.in1 s y u (if hy : ∃ a, a ∈ as ∧ VR s.heap y a then zd8 hy.choose x else false)
  rwa [dif_pos hex]
  have := za4 hex.choose_spec.1
  exact zlY _ (Nat.le_refl _) hex.choose_spec.2 rx (zaI hp hex.choose_spec.1) hpx (by show A.units + 1 + _ + _ < _; walk_at "o")
 ·refine zpE hpx rs hp fun y a hy ha q => ?_
  have hex : ∃ a, a ∈ as ∧ VR s.heap y a := (iEA a ha q)
  show (if hy : ∃ a, a ∈ as ∧ VR s.heap y a then zd8 hy.choose x else false) = _
  rwa [dif_pos hex]
  exact congrArg (zd8 · x) (hex.choose_spec.2.det q (zaI hp hex.choose_spec.1) (zaI hp ha))
theorem zbG {a : AV} {xs : List AV} (hp : zaw xs = true) (ha : zau a = true) (hu : A.units + zaG xs + zaH a + 1 < cLine) (h : Φ (.bool (xs.any fun y => zd8 y a)) l) : Op2 B A (compareOp .In) a (.tup xs) l Φ Ψ := fun s v u G r1 r2 => by
 revert u; refine VR.tupA fun _ _ t rs => ?_
 ·refine xEA (zkC (A := A) rs r1 hp ha hu) fun f hf e => ?_
  refine in_tupleAt f (zbF t) (fun y hy => hf y (by simpa using hy)) ?_
  rwa [← Array.any_toList, e]; exact .here .bool G h
theorem zdM {a : AV} {y : Addr} {xs : List AV} (hy : (y, zaa.list xs) ∈ l) (hp : zaw xs = true) (ha : zau a = true) (hu : A.units + zaG xs + zaH a + 1 < cLine) (h : Φ (.bool (xs.any fun y => zd8 y a)) l) : Op2 B A (compareOp .In) a (.ref y) l Φ Ψ := fun s v u G r1 r2 => by
 obtain rfl := r2.inv
 refine zbE (zaP G hy) fun vs n hl rs => ?_
 refine xEA (zkC (A := A) rs r1 hp ha hu) fun f hf e => ?_
 refine in_listAt f hl.isList (fun y hy => hf y (by simpa using hy)) ?_
 rwa [← Array.any_toList, e]; exact .here .bool G h
theorem zf2 {a : AV} {y : Addr} {xs : List AV} (hy : (y, zaa.list xs) ∈ l) (hp : zaw xs = true) (ha : zau a = true) (hu : A.units + zaG xs + zaH a + 1 < cLine) (h : Φ (.bool (!xs.any fun y => zd8 y a)) l) : Op2 B A (compareOp .NotIn) a (.ref y) l Φ Ψ := fun s v u G r1 r2 => by
 obtain rfl := r2.inv
 refine zbE (zaP G hy) fun vs n hl rs => ?_
 refine xEA (zkC (A := A) rs r1 hp ha hu) fun f hf e => ?_
 refine notIn_listAt f hl.isList (fun y hy => hf y (by simpa using hy)) ?_
 rwa [← Array.any_toList, e]; exact .here .bool G h
end
end
section
variable {B : zan} {A : Around} {env : Env} {Ψ : XQ} {l : Led} {Θ : Fl → Led → Prop} {pos : Pos} {Φ : EQ}
theorem zaB.letGo {s : Shared} {I : Addr} {c : zaa} (G : zaB B ((I, c) :: l) s) {h' : Heap} (k : ∀ b, b ≠ I → ∀ o, s.heap.get? b = some o → h'.get? b = some o) (n : Nat) : zaB B l { s with heap := h', toks := n } ∧ Ext s.heap h' := by
 have nd := G.nodup
 rw [List.map_cons, List.nodup_cons] at nd
 exact (G.sub (List.sublist_cons_self ..)).other k (G.apart _ (.head _)) nd.1 (fun xs t => zbi (G.cells _ (.head _)) t) n
theorem za0 {s : Shared} (G : zaB B l s) {I : Addr} {o : Obj} (h : (I, zaa.raw o) ∈ l) : s.heap.get? I = some o := (G.cells _ h).2
theorem zaB.newRaw {s : Shared} (G : zaB B l s) (o : Obj) (hf : o.isFreed = false) (h1 : o.cls ≠ .type "tuple") (h2 : o.cls ≠ .type "traceback") : zaB B ((s.heap.objs.size, zaa.raw o) :: l) { s with heap := s.heap.push o } :=
 G.add (fun b o' e => Heap.get?_push_of_some o e) (zas (Nat.le_refl _)) (c := .raw o) ⟨⟨h1, h2⟩, Heap.get?_push_size _ hf⟩ s.toks
theorem zaB.turnRaw {s : Shared} {I : Addr} {o o' : Obj} (G : zaB B ((I, zaa.raw o) :: l) s) {h' : Heap} (k : ∀ b, b ≠ I → ∀ o, s.heap.get? b = some o → h'.get? b = some o) (hI : h'.get? I = some o') (hc : o'.cls = o.cls) (n : Nat) :
  zaB B ((I, zaa.raw o') :: l) { s with heap := h', toks := n } ∧ Ext s.heap h' :=
 G.turn (c' := .raw o') (f := fun c' => (I, c') :: l) .head k (fun x _ => ⟨hc ▸ x.1, hI⟩) n
theorem zbg {a b : String} (h : (a == b) = false) : (Value.type a) ≠ .type b := fun q => by injection q with q; exact absurd q (by simpa using h)
noncomputable def zrG (I a : Addr) (i : Nat) (ls : Led) : Prop := ∃ o, ls = [(I, zaa.raw o)] ∧ o.cls = .type "list_iterator" ∧ o.data = .fields #[.ref a, .int i 0]
theorem zdi {s : Shared} {I : Addr} {o : Obj} {T : String} {ds : Array Value} {t : Expr} {u : Value} {Q : Unit → Shared → Prop} {E : Value → Shared → Prop} (ho : s.heap.get? I = some o) (hc : o.cls = .type T) (hd : o.data = .fields ds)
  (hT : (["enumerate", "zip", "dict_itemiterator", "dict_reverseitemiterator", "odict_iterator", "itertools.zip_longest", "itertools.pairwise"].contains T) = false) (h : Q () s) : wpAny (model B.prog B.w) A (letOwnedTupleGo t (.ref I) u) Q E s := by
 have key : ∀ b, wpAny (model B.prog B.w) A (do
   let o ← load I
   match o.cls, o.data with
   | .type n, .fields vs =>
    if ["enumerate", "zip", "dict_itemiterator", "dict_reverseitemiterator", "odict_iterator", "itertools.zip_longest", "itertools.pairwise"].contains n && vs[0]? == some (rawInt b) then
     rule "for.unpacks-the-owned-tuple"
     updateField I 0 .none
   | _, _ => pure ()) Q E s := fun b => by
  refine wpAny_bind (wpAny_load ho ?_)
  rwa [hc, hd]
  dsimp only
  rwa [if_neg (by intro h; rw [hT, Bool.false_and] at h; cases h)]
  exact wpAny_pure h
 unfold letOwnedTupleGo
 cases t <;> first | exact wpAny_pure h | (cases u <;> first | exact key _ | exact wpAny_pure h)
theorem zbx {a : Addr} {xs : List AV} (hh : A.handled = none) (ha : (a, zaa.list xs) ∈ l) : It B A (fun _ => True) (.ref a) xs (fun l' => (a, zaa.list xs) ∈ l') l l := fun s v E G r => by
 cases r
 refine zbE (zaP G ha) fun vs n hl rs => ?_
 have k : ∀ b o, s.heap.get? b = some o → (s.heap.push { cls := .type "list_iterator", data := .fields #[.ref a, .int 0 0] }).get? b = some o := fun _ _ e => Heap.get?_push_of_some _ e
 refine wpAny_pyIter_list hl.isList (zcI s.heap.objs.size (zrG s.heap.objs.size a) _ rfl (Ext.of_keeps k) ?_ ⟨_, rfl, rfl, rfl⟩ (G.newRaw { cls := .type "list_iterator", data := .fields #[.ref a, .int 0 0] } rfl (zbg (by decide)) (zbg (by decide))))
 constructor
 ·intro i x ls l' s' E _ hx zq1 hreq G'
  refine zdx zq1 fun o yq21 hc hd => ?_
  clear zq1
  subst yq21
  refine zbE (zaP G' (List.mem_append_right _ hreq)) fun vs n hl rs => ?_
  have ho := za0 G' (I := s.heap.objs.size) (List.mem_append_left _ (.head _))
  refine xEA (rs.at hx) fun u hu ru => ?_
  refine wpAny_pyNext_list_item ⟨o, ho, hc, hd⟩ hl.isList (x := u) (by simpa using hu) fun h' hit hs => ?_
  refine zdx (id hit) fun o' ho' hc' hd' => ?_
  have T := zaB.turnRaw (n := s'.toks) G' (h' := h') (fun b hb o e => (hs.2 b hb).trans e) ho' (hc'.trans hc.symm)
  exact (zfh u rfl T.2 (ru.mono T.2) (fun t E _ => zdi ho' hc' hd' (by decide) (ze8 _ (Ext.refl _) ⟨o', rfl, hc', hd'⟩ T.1)))
 ·intro ls l' s' E _ zq2 hreq G'
  refine zdx zq2 fun o yq22 hc hd => ?_
  clear zq2
  subst yq22
  refine zbE (zaP G' (List.mem_append_right _ hreq)) fun vs n hl rs => ?_
  have ho := za0 G' (I := s.heap.objs.size) (List.mem_append_left _ (.head _))
  refine wpAny_pyNext_list_end hh ⟨o, ho, hc, hd⟩ hl.isList ?_ fun h' x => ?_
  ·rwa [Array.getElem?_eq_none_iff]; have := rs.len; simp at this; walk_at "o"
  ·have T := zaB.letGo G' (h' := h') (fun b hb o e => x b o hb e) s'.toks
   exact (iAA rfl T.2 T.1)
 ·intro i ls l' s' E Q _ zq3 G' hQ
  refine zdx zq3 fun o yq23 hc hd => ?_
  clear zq3
  subst yq23
  have ho := za0 G' (I := s.heap.objs.size) (List.mem_append_left _ (.head _))
  exact wpAny_pyIter_listiter ⟨o, ho, hc, hd⟩ hQ
noncomputable def zrE (I a : Addr) (i : Nat) (ls : Led) : Prop := ∃ o, ls = [(I, zaa.raw o)] ∧ o.cls = .type "tuple_iterator" ∧ o.data = .fields #[.ref a, .int i 0]
theorem zdl {xs : List AV} (hh : A.handled = none) : It B A (fun _ => True) (.tup xs) xs (fun _ => True) l l := fun s v E G r => by
 cases r with
 | @tup a vs _ t rs =>
 have k : ∀ b o, s.heap.get? b = some o → (s.heap.push { cls := .type "tuple_iterator", data := .fields #[.ref a, .int 0 0] }).get? b = some o := fun _ _ e => Heap.get?_push_of_some _ e
 have E0 := Ext.of_keeps k
 have rs0 := rs.mono E0
 refine wpAny_pyIter_tuple (zbF t) (zcI s.heap.objs.size (zrE s.heap.objs.size a) _ rfl E0 ?_ ⟨_, rfl, rfl, rfl⟩ (G.newRaw { cls := .type "tuple_iterator", data := .fields #[.ref a, .int 0 0] } rfl (zbg (by decide)) (zbg (by decide))))
 constructor
 ·intro i x ls l' s' E e0 hx zq4 hreq G'
  refine zdx zq4 fun o yq24 hc hd => ?_
  clear zq4
  subst yq24
  have ho := za0 G' (I := s.heap.objs.size) (List.mem_append_left _ (.head _))
  refine xEA ((rs0.mono e0).at hx) fun u hu ru => ?_
  refine wpAny_pyNext_tuple_item ⟨o, ho, hc, hd⟩ (zbF (e0 _ _ (E0 _ _ t))) (x := u) (by simpa using hu) fun h' hit hs => ?_
  refine zdx (id hit) fun o' ho' hc' hd' => ?_
  have T := zaB.turnRaw (n := s'.toks) G' (h' := h') (fun b hb o e => (hs.2 b hb).trans e) ho' (hc'.trans hc.symm)
  exact (zfh u rfl T.2 (ru.mono T.2) (fun t E _ => zdi ho' hc' hd' (by decide) (ze8 _ (Ext.refl _) ⟨o', rfl, hc', hd'⟩ T.1)))
 ·intro ls l' s' E e0 zq5 hreq G'
  refine zdx zq5 fun o yq25 hc hd => ?_
  clear zq5
  subst yq25
  have ho := za0 G' (I := s.heap.objs.size) (List.mem_append_left _ (.head _))
  refine wpAny_pyNext_tuple_end hh ⟨o, ho, hc, hd⟩ (zbF (e0 _ _ (E0 _ _ t))) ?_ fun h' x => ?_
  ·rwa [Array.getElem?_eq_none_iff]; have := rs.len; simp at this; walk_at "o"
  ·have T := zaB.letGo G' (h' := h') (fun b hb o e => x b o hb e) s'.toks
   exact (iAA rfl T.2 T.1)
 ·intro i ls l' s' E Q _ zq6 G' hQ
  refine zdx zq6 fun o yq26 hc hd => ?_
  clear zq6
  subst yq26
  have ho := za0 G' (I := s.heap.objs.size) (List.mem_append_left _ (.head _))
  exact wpAny_pyIter_tupleiter ⟨o, ho, hc, hd⟩ hQ
noncomputable def zqg (n : Int) (t u v : Tok) : zaa := .raw { cls := .type "range", data := .fields #[.int 0 t, .int n u, .int 1 v] }
theorem zcL {n : Int} (h : ∀ r t u v, Φ (.ref r) ((r, zqg n t u v) :: l)) : zaZ B A (.ty "range") [.int n] l Φ Ψ := .mk <| fun s f vs G r rs => by
 obtain rfl := r.inv
 refine xEA rs.inv1 fun r19 yq27 r1 => ?_
 subst yq27
 refine xE r1.inv fun _ yq28 => ?_
 subst yq28
 rename_i tk
 refine call_range_1 ?_
 have G1 := (G.newRaw { cls := .type "range", data := .fields #[.int 0 s.toks, .int n tk, .int 1 (s.toks + 1)] } rfl (zbg (by decide)) (zbg (by decide))).toks (s.toks + 1 + 1)
 exact ⟨Ext.of_keeps fun _ _ e => Heap.get?_push_of_some _ e, _, _, .ref, G1, h _ _ _ _⟩
theorem zey {n : Int} (h0 : 0 ≤ n) (h1 : n ≤ 2 ^ 30) : Builtin.Range.small 0 n 1 = true ∧ Builtin.Range.rangeSize 0 n 1 = n := by
 have e : Builtin.Range.rangeSize 0 n 1 = n := by
  unfold Builtin.Range.rangeSize
  have : (if n > 0 then (n - 0 - 1) / 1 + 1 else 0) = n := by split <;> walk_at "o"
  first | (simp; walk_at "o") | (simp; split <;> walk_at "o") | (split <;> simp <;> walk_at "o")
 have f : ∀ x : Int, 0 ≤ x → x ≤ 2 ^ 30 → Builtin.Range.rangeFitsLong x = true := fun x a b => by
  unfold Builtin.Range.rangeFitsLong
  simp
  walk_at "o"
 refine ⟨?_, e⟩
 unfold Builtin.Range.small
 rwa [e]
 simp [f n h0 h1, f 0 (by walk_at "o") (by walk_at "o"), f 1 (by walk_at "o") (by walk_at "o")]
noncomputable def znN (x left : Int) : Obj := { cls := .type "range_iterator", data := .fields #[rawInt x, rawInt left, rawInt 1] }
theorem zdm {r : Addr} {n : Nat} {t u v : Tok} (hh : A.handled = none) (hr : (r, zqg n t u v) ∈ l) (hn : n ≤ 2 ^ 30) : It B A (fun _ => True) (.ref r) ((List.range n).map fun i => .int (i : Nat)) (fun _ => True) l l := fun s v E G rr => by
 cases rr
 have ho := za0 G hr
 have sm := zey (n := n) (by walk_at "o") (by walk_at "o")
 have k : ∀ b o, s.heap.get? b = some o → (s.heap.push (znN 0 n)).get? b = some o := fun _ _ e => Heap.get?_push_of_some _ e
 refine wpAny_pyIter_range ho sm.1 ?_
 rwa [sm.2]
 refine (zcI s.heap.objs.size (fun i ls => ls = [(s.heap.objs.size, zaa.raw (znN i (n - i)))]) ([(s.heap.objs.size, zaa.raw (znN 0 n))]) rfl (Ext.of_keeps k) ?_ (by simp) (G.newRaw (znN 0 n) rfl (zbg (by decide)) (zbg (by decide))))
 constructor
 ·rintro i x ls l' s' E _ hx rfl hreq G'
  have ho := za0 G' (I := s.heap.objs.size) (List.mem_append_left _ (.head _))
  have hi : i < n ∧ x = .int i := by
   simp only [List.getElem?_map, List.getElem?_range', Option.map_eq_some_iff] at hx
   refine xEA hx fun a ha yq29 => ?_
   clear hx
   subst yq29
   have := List.getElem?_eq_some_iff.mp ha
   obtain ⟨h1, h2⟩ := this
   simp at h1 h2
   exact ⟨h1, by (rewrite [← h2]; with_reducible rfl)⟩
  refine xA hi ?_; clear hi; intro hi yq30
  subst yq30
  refine wpAny_pyNext_range_item ho (by walk_at "o") fun h' hit hs => ?_
  have e : (((i : Nat) : Int) + 1) = ((i + 1 : Nat) : Int) := by push_cast; rfl
  have e2 : ((n : Int) - i) - 1 = (n : Int) - ((i + 1 : Nat) : Int) := by push_cast; walk_at "o"
  have ho' : h'.get? s.heap.objs.size = some (znN ((i + 1 : Nat) : Int) (n - ((i + 1 : Nat) : Int))) := by
   have q : h'.get? s.heap.objs.size = some (znN ((i : Int) + 1) ((n : Int) - i - 1)) := hit
   rw [e, e2] at q; exact q
  have T := zaB.turnRaw (n := s'.toks + 1) G' (h' := h') (fun b hb o e => (hs.2 b hb).trans e) ho' rfl
  exact (zfh _ rfl T.2 .int (fun t E _ => zdi ho' rfl rfl (by decide) (ze8 _ (Ext.refl _) rfl T.1)))
 ·rintro ls l' s' E _ rfl hreq G'
  have ho := za0 G' (I := s.heap.objs.size) (List.mem_append_left _ (.head _))
  refine wpAny_pyNext_range_end hh ho (by simp) fun h' x => ?_
  have T := zaB.letGo G' (h' := h') (fun b hb o e => x b o hb e) s'.toks
  exact (iAA rfl T.2 T.1)
 ·rintro i ls l' s' E Q _ rfl G' hQ
  have ho := za0 G' (I := s.heap.objs.size) (List.mem_append_left _ (.head _))
  exact wpAny_pyIter_rangeiter ho hQ
noncomputable def zji (it : Addr) (i : Int) (old : Value) : Obj := { cls := .type "enumerate", data := .fields #[.none, .bool false, .ref it, rawInt i, .none, old] }
theorem zkV {a : Addr} {xs : List AV} (ha : (a, zaa.list xs) ∈ l) (h : ∀ e it o, e ≠ it → o.cls = .type "list_iterator" → o.data = .fields #[.ref a, .int 0 0] → Φ (.ref e) ((e, zaa.raw (zji it 0 .none)) :: (it, zaa.raw o) :: l)) : zaZ B A (.ty "enumerate") [.ref a] l Φ Ψ := .mk <| fun s f vs G r rs => by
 obtain rfl := r.inv
 refine xEA rs.inv1 fun r19 yq31 r1 => ?_
 subst yq31
 obtain rfl := r1.inv
 refine zbE (zaP G ha) fun vs n hl rs => ?_
 refine call_enumerate_list hl.isList fun h' he hit hz k => ?_
 refine zdx hit fun o ho hc hd => ?_
 clear hit
 have ne : s.heap.objs.size + 1 ≠ s.heap.objs.size := by walk_at "o"
 have G0 := G.grow k s.toks
 have f0 := G.fresh (zas (h := s.heap) (Nat.le_refl s.heap.objs.size))
 have f1 := G.fresh (zas (h := s.heap) (a := s.heap.objs.size + 1) (by walk_at "o"))
 have G1 : zaB B ((s.heap.objs.size + 1, zaa.raw (zji s.heap.objs.size 0 .none)) :: (s.heap.objs.size, zaa.raw o) :: l) { s with heap := h' } := by
  refine ⟨G0.base, ?_, ?_, ?_, G0.os, G0.gens⟩
  ·intro p hp
   refine mcE hp ?_ fun p hp => ?_
   ·exact ⟨⟨zbg (by decide), zbg (by decide)⟩, he⟩
   ·refine mcE hp ?_ fun p hp => ?_
    ·exact ⟨⟨by rwa [hc]; exact zbg (by decide), by rwa [hc]; exact zbg (by decide)⟩, ho⟩
    ·exact G0.cells p hp
  ·rwa [List.map_cons, List.map_cons, List.nodup_cons, List.nodup_cons]
   exact (iAA (fun hm => by rcases List.mem_cons.mp hm with q | q; exact ne q; exact f1.1 q) f0.1 G.nodup)
  ·intro p hp
   refine mcE hp ?_ fun p hp => ?_
   ·exact f1.2
   ·refine mcE hp ?_ fun p hp => ?_
    ·exact f0.2
    ·exact G.apart p hp
 exact ⟨Ext.of_keeps k, _, _, .ref, G1, h _ _ o ne hc hd⟩
noncomputable def zd4 (xs : List AV) : List AV := xs.zipIdx.map fun p => .tup [.int (p.2 : Nat), p.1]
theorem zeZ {xs : List AV} {i : Nat} {x : AV} (h : (zd4 xs)[i]? = some x) : ∃ y, xs[i]? = some y ∧ x = .tup [.int (i : Nat), y] := by
 unfold zd4 at h
 rw [List.getElem?_map, List.getElem?_zipIdx] at h
 cases q : xs[i]? with
 | none => rw [q] at h; cases h
 | some y => rw [q] at h; simp at h; exact (iEA y rfl h.symm)
theorem zcK {xs : List AV} : (zd4 xs).length = xs.length := by simp [zd4]
noncomputable def zkA : Expr → Prop
 | .Tuple .. => True
 | _ => False
noncomputable def EnS (e it a : Addr) (i : Nat) (ls : Led) : Prop := ∃ o old, ls = [(e, zaa.raw (zji it i old)), (it, zaa.raw o)] ∧ o.cls = .type "list_iterator" ∧ o.data = .fields #[.ref a, .int i 0]
theorem zky {e it a : Addr} {o : Obj} {xs : List AV} (hh : A.handled = none) (hne : e ≠ it) (hc : o.cls = .type "list_iterator") (hd : o.data = .fields #[.ref a, .int 0 0]) :
  It B A zkA (.ref e) (zd4 xs) (fun l' => (a, zaa.list xs) ∈ l') ((e, zaa.raw (zji it 0 .none)) :: (it, zaa.raw o) :: l) l := fun s v E G rr => by
 cases rr
 have he := za0 G (.head _)
 refine wpAny_pyIter_enum (i := 0) he (zcI e (EnS e it a) _ rfl (Ext.refl _) ?_ ⟨o, .none, rfl, hc, hd⟩ G)
 constructor
 ·intro i x ls l' s' E _ hx zq7 hreq G'
  refine zbS zq7 fun o old yq32 hc hd => ?_
  clear zq7
  subst yq32
  refine xEA (zeZ hx) fun y hy yq33 => ?_
  subst yq33
  refine zbE (zaP G' (List.mem_append_right _ hreq)) fun vs n hl rs => ?_
  have he := za0 G' (I := e) (List.mem_append_left _ (.head _))
  have hi := za0 G' (I := it) (List.mem_append_left _ mz1)
  refine xEA (rs.at hy) fun u hu ru => ?_
  refine wpAny_pyNext_enum_item he ⟨o, hi, hc, hd⟩ hl.isList (x := u) (by simpa using hu) hne fun h' heo hit htup hz k => ?_
  refine zdx (id hit) fun o' ho' hc' hd' => ?_
  have G1 : zaB B ((it, zaa.raw o') :: l') { s' with heap := h', toks := s'.toks + 1 } ∧ Ext s'.heap h' := by
   have nd := G'.nodup
   have E1 : Ext s'.heap h' := fun b zs t => by
    by_cases q1 : b = e
    ·subst q1; exact (zbi (G'.cells _ (List.mem_append_left _ (.head _))) t).elim
    ·by_cases q2 : b = it
     ·subst q2; exact (zbi (G'.cells _ (List.mem_append_left _ mz1)) t).elim
     ·(refine xE t fun n h1 => ?_; clear t); exact ⟨n, k b _ q1 q2 h1⟩
   rw [List.map_append, List.map_cons, List.map_cons] at nd
   have nd1 : it ∉ l'.map (·.1) ∧ e ∉ l'.map (·.1) ∧ (l'.map (·.1)).Nodup := by
    simp only [List.map_nil, List.cons_append, List.nil_append, List.nodup_cons, List.mem_cons, not_or] at nd
    exact (iAA nd.2.1 nd.1.2 nd.2.2)
   refine ⟨⟨fun b ob q => k b ob (fun r => ?_) (fun r => ?_) (G'.base b ob q), fun p hp => ?_, ?_, fun p hp => ?_, G'.os, G'.gens⟩, E1⟩
   ·have := G'.apart (e, _) (List.mem_append_left _ (.head _)); dsimp only at this; rw [← r, q] at this; cases this
   ·have := G'.apart (it, _) (List.mem_append_left _ mz1); dsimp only at this; rw [← r, q] at this; cases this
   ·refine mcE hp ?_ fun p hp => ?_
    ·exact ⟨⟨by rwa [hc']; exact zbg (by decide), by rwa [hc']; exact zbg (by decide)⟩, ho'⟩
    ·refine (G'.cells p (List.mem_append_right _ hp)).keep (fun o q => k _ o (fun r => ?_) (fun r => ?_) q) E1
     ·exact nd1.2.1 (r ▸ List.mem_map_of_mem hp)
     ·exact nd1.1 (r ▸ List.mem_map_of_mem hp)
   ·rwa [List.map_cons, List.nodup_cons]; exact ⟨nd1.1, nd1.2.2⟩
   ·refine mcE hp ?_ fun p hp => ?_
    ·exact G'.apart (it, zaa.raw o) (List.mem_append_left _ mz1)
    ·exact G'.apart p (List.mem_append_right _ hp)
  have hh0 : B.h₀.get? e = none := G'.apart (e, _) (List.mem_append_left _ (.head _))
  refine (zfh _ rfl G1.2 (.tup ⟨_, htup⟩ (.cons .int (.cons (ru.mono G1.2) .nil))) (fun t E ht => ?_))
  cases t with
  | Tuple ts q p =>
   refine wpAny_letOwnedTupleGo_enum heo fun h2 he2 hs2 => ?_
   have nde : e ∉ ((it, zaa.raw o') :: l').map (·.1) := by
    have nd := G'.nodup
    simp only [List.map_append, List.map_nil, List.map_cons, List.cons_append, List.nil_append, List.nodup_cons, List.mem_cons, not_or] at nd
    simp only [List.map_cons, List.mem_cons, not_or]
    exact ⟨hne, nd.1.2⟩
   have T := G1.1.other (h' := h2) (fun b hb o e => (hs2.2 b hb).trans e) hh0 nde (fun xs t => by
    refine xE t fun n q => ?_
    clear t
    have r := congrArg Obj.data (Option.some.inj (heo.symm.trans q))
    cases r) (s'.toks + 1)
   have ee : ((i : Int) + 1) = ((i + 1 : Nat) : Int) := by push_cast; rfl
   rw [ee] at he2
   refine (ze8 _ T.2 ⟨o', u, rfl, hc', hd'⟩ ?_)
   refine ⟨T.1.base, ?_, ?_, ?_, T.1.os, T.1.gens⟩
   ·intro p hp
    rcases List.mem_cons.mp (show p ∈ (e, zaa.raw (zji it (i + 1 : Nat) u)) :: ((it, zaa.raw o') :: l') from hp) with rfl | hp
    ·exact ⟨⟨zbg (by decide), zbg (by decide)⟩, he2⟩
    ·exact T.1.cells p hp
   ·show (e :: ((it, zaa.raw o') :: l').map (·.1)).Nodup
    rwa [List.nodup_cons]; exact ⟨nde, T.1.nodup⟩
   ·intro p hp
    rcases List.mem_cons.mp (show p ∈ (e, zaa.raw (zji it (i + 1 : Nat) u)) :: ((it, zaa.raw o') :: l') from hp) with rfl | hp
    ·exact hh0
    ·exact T.1.apart p hp
  | _ => exact ht.elim
 ·intro ls l' s' E _ zq8 hreq G'
  refine zbS zq8 fun o old yq34 hc hd => ?_
  clear zq8
  subst yq34
  refine zbE (zaP G' (List.mem_append_right _ hreq)) fun vs n hl rs => ?_
  have he := za0 G' (I := e) (List.mem_append_left _ (.head _))
  have hi := za0 G' (I := it) (List.mem_append_left _ mz1)
  rw [zcK] at hd he
  refine wpAny_pyNext_enum_end hh he ⟨o, hi, hc, hd⟩ hl.isList ?_ fun h' x => ?_
  ·rwa [Array.getElem?_eq_none_iff]; have := rs.len; simp at this; walk_at "o"
  ·have G2 : zaB B ((it, zaa.raw o) :: l') s' := G'.sub (List.sublist_cons_self ..)
   have T := zaB.letGo G2 (h' := h') (fun b hb o e => x b o hb e) s'.toks
   exact (iAA rfl T.2 T.1)
 ·intro i ls l' s' E Q _ zq9 G' hQ
  refine zbS zq9 fun o old yq35 hc hd => ?_
  clear zq9
  subst yq35
  have he := za0 G' (I := e) (List.mem_append_left _ (.head _))
  exact wpAny_pyIter_enum he hQ
end
section
variable {B : zan} {A : Around} {env : Env} {Ψ : XQ} {l : Led} {Θ : Fl → Led → Prop} {pos : Pos} {Φ : EQ}
theorem zit {a : Addr} {xs : List AV} (ha : (a, zaa.list xs) ∈ l) (hf : xs.length < 2 ^ 60) (h : Φ (.int xs.length) l) : zaZ B A (.bi "len") [.ref a] l Φ Ψ := .mk <| fun s f vs G r rs => by
 obtain rfl := r.inv
 refine xEA rs.inv1 fun r19 yq36 r1 => ?_
 subst yq36
 obtain rfl := r1.inv
 refine zbE (zaP G ha) fun ws n hl rs => ?_
 have e : ws.size = xs.length := by have := rs.len; simpa using this
 refine call_len_list hl.isList (by rwa [e]; walk_at "o") ?_
 rwa [e]; exact .tok .int G h
theorem zd6 {i j : Int} (hh : A.handled = none) (h : Φ (.int (max i j)) l) : zaZ B A (.bi "max") [.int i, .int j] l Φ Ψ := .mk <| fun s f vs G r rs => by
 obtain rfl := r.inv
 refine zbS rs.inv2 fun r19 r29 yq37 r1 r2 => ?_
 subst yq37
 (refine xE r1.inv fun _ yq38 => ?_; subst yq38); (refine xE r2.inv fun _ yq39 => ?_; subst yq39)
 refine max_two_ints hh fun h' tk k => ?_
 have G' := G.grow k tk
 have E := Ext.of_keeps k
 by_cases q : j > i
 ·rwa [if_pos q]; exact ⟨E, _, _, .int, G', by rw [show max i j = j by walk_at "o"] at h; exact h⟩
 ·rwa [if_neg q]; exact ⟨E, _, _, .int, G', by rw [show max i j = i by walk_at "o"] at h; exact h⟩
theorem zhJ {b : Bool} (h : Φ (.int (if b then 1 else 0)) l) : zaZ B A (.ty "int") [.bool b] l Φ Ψ := .mk <| fun s f vs G r rs => by
 obtain rfl := r.inv
 refine xEA rs.inv1 fun r19 yq40 r1 => ?_
 subst yq40
 obtain rfl := r1.inv
 exact call_int_bool (.tok .int G h)
theorem zbh {i : Int} (hi : i.natAbs.log2 < 1920) (h : Φ (.str (toString i : String)) l) : zaZ B A (.ty "str") [.int i] l Φ Ψ := .mk <| fun s f vs G r rs => by
 obtain rfl := r.inv
 refine xEA rs.inv1 fun r19 yq41 r1 => ?_
 subst yq41
 refine xE r1.inv fun _ yq42 => ?_
 subst yq42
 exact PySem.P.str_of_int hi (.tok .str G h)
theorem VRs.of_at {h : Heap} : ∀ {vs : List Value} {as : List AV}, vs.length = as.length → (∀ (j : Nat) (v : Value) (a : AV), vs[j]? = some v → as[j]? = some a → VR h v a) → VRs h vs as
 | [], [], _, _ => .nil
 | v :: vs, a :: as, e, f => .cons (f 0 v a rfl rfl) (VRs.of_at (by simpa using e) fun j v a h1 h2 => f (j + 1) v a (by simpa using h1) (by simpa using h2))
theorem zbV {s : Shared} (G : zaB B l s) {h' : Heap} {D : Addr} {vs : Array Value} {n : Nat} {xs : List AV} {tk : Nat} (hD : s.heap.get? D = none) (k : ∀ b o, s.heap.get? b = some o → h'.get? b = some o) (hl : IsL h' D vs n) (rs : VRs h' vs.toList xs) :
  zaB B ((D, zaa.list xs) :: l) { s with heap := h', toks := tk } := G.add k hD (c := .list xs) ⟨vs, n, hl, rs⟩ tk
theorem zge {r : Addr} {n : Nat} {t u v : Tok} (hh : A.handled = none) (hr : (r, zqg n t u v) ∈ l) (hn : n ≤ 2 ^ 20) (h : ∀ D, Φ (.ref D) ((D, zaa.list ((List.range n).map fun i => .int (i : Nat))) :: l)) : zaZ B A (.ty "list") [.ref r] l Φ Ψ := .mk <| fun s f vs G rf rs => by
 obtain rfl := rf.inv
 refine xEA rs.inv1 fun r19 yq43 r1 => ?_
 subst yq43
 obtain rfl := r1.inv
 have ho := za0 G hr
 have sm := zey (n := n) (by walk_at "o") (by walk_at "o")
 refine call_list_range hh ho sm.1 sm.2 (by walk_at "o") fun h' tk acc' c' k hl hit => ?_
 have rs : VRs h' acc'.toList ((List.range n).map fun i => .int (i : Nat)) := by
  refine xA (id hit) fun h1 h2 => ?_
  refine VRs.of_at (by simp [h1]) fun j v a hv ha => ?_
  refine xE (h2 j v (by simpa using hv)) fun t yq44 => ?_
  subst yq44
  simp only [List.getElem?_map, Option.map_eq_some_iff] at ha
  refine xEA ha fun i hi yq45 => ?_
  clear ha
  subst yq45
  obtain ⟨_, hi⟩ := List.getElem?_eq_some_iff.mp hi
  simp at hi
  subst hi
  have e : (0 : Int) + (j : Int) * 1 = j := by walk_at "o"
  rwa [e]; exact .int
 exact ⟨Ext.of_keeps k, _, _, .ref, zbV G (zas (Nat.le_refl _)) k hl rs, h _⟩
theorem zbp {a : Addr} {xs : List AV} (ha : (a, zaa.list xs) ∈ l) (hz : xs.length ≤ 10 ^ 6) (h : Φ (.tup xs) l) : zaZ B A (.ty "tuple") [.ref a] l Φ Ψ := .mk <| fun s f vs G r rs => by
 obtain rfl := r.inv
 refine xEA rs.inv1 fun r19 yq46 r1 => ?_
 subst yq46
 obtain rfl := r1.inv
 refine zbE (zaP G ha) fun ws n hl rs => ?_
 have e : ws.size = xs.length := by have := rs.len; simpa using this
 refine call_tuple_list hl.isList (fun h' k => ?_) (by rwa [e, sizeLine_eq]; walk_at "o")
 have k2 : ∀ b o, s.heap.get? b = some o → (h'.push { cls := .type "tuple", data := .seq ws }).get? b = some o := fun b o q => Heap.get?_push_of_some _ (k b o q)
 exact ⟨Ext.of_keeps k2, _, _, .tup ⟨0, Heap.get?_push_size _ rfl⟩ (rs.mono (Ext.of_keeps k2)), G.grow k2 s.toks, h⟩
theorem zhA {pl : Sem Bool} {name : Str} {id : String} {a : Addr} {xs : List AV} {Φ : AV × List AV → Led → Prop} (ha : (a, zaa.list xs) ∈ l) (slot : Slot "list" name id) (hty : typeOf (.builtin id) = pure (.type "method_descriptor")) (h : Φ (.bi id, [.ref a]) l) :
  zkZ B A pl name (.ref a) l Φ Ψ := fun s v G r => by
 cases r
 refine zbE (zaP G ha) fun ws n hl rs => ?_
 exact getMethod_builtin hl.isList.typeIs F.plainAttrs_list slot hty (fun b e => by cases e; exact (iEA _ hl rfl)) ⟨Ext.refl _, (.bi id, [.ref a]), l, ⟨.bi, .cons .ref .nil⟩, G, h⟩
theorem zkG {pl : Sem Bool} {name : Str} {id : String} {a : Addr} {es : List (Str × AV)} {Φ : AV × List AV → Led → Prop} (ha : (a, zaa.dict es) ∈ l) (slot : Slot "dict" name id) (hty : typeOf (.builtin id) = pure (.type "method_descriptor")) (h : Φ (.bi id, [.ref a]) l) :
  zkZ B A pl name (.ref a) l Φ Ψ := fun s v G r => by
 cases r
 refine xEA (G.cells _ ha) fun kvs yq47 rs => ?_
 obtain ⟨D, hs⟩ := yq47
 exact getMethod_builtin D.typeIs F.plainAttrs_dict slot hty D.mapOf.noDict ⟨Ext.refl _, (.bi id, [.ref a]), l, ⟨.bi, .cons .ref .nil⟩, G, h⟩
theorem zbb {pl : Sem Bool} {a : Addr} {xs : List AV} {Φ : AV × List AV → Led → Prop} (ha : (a, zaa.list xs) ∈ l) (h : Φ (.bi "list.append", [.ref a]) l) : zkZ B A pl "append" (.ref a) l Φ Ψ := zhA ha F.slot_list_append F.type_list_append h
theorem zfC {pl : Sem Bool} {a : Addr} {xs : List AV} {Φ : AV × List AV → Led → Prop} (ha : (a, zaa.list xs) ∈ l) (h : Φ (.bi "list.pop", [.ref a]) l) : zkZ B A pl "pop" (.ref a) l Φ Ψ := zhA ha F.slot_list_pop F.type_list_pop h
theorem zkF {pl : Sem Bool} {a : Addr} {xs : List AV} {Φ : AV × List AV → Led → Prop} (ha : (a, zaa.list xs) ∈ l) (h : Φ (.bi "list.extend", [.ref a]) l) : zkZ B A pl "extend" (.ref a) l Φ Ψ := zhA ha F.slot_list_extend F.type_list_extend h
theorem zoA {pl : Sem Bool} {a : Addr} {es : List (Str × AV)} {Φ : AV × List AV → Led → Prop} (ha : (a, zaa.dict es) ∈ l) (h : Φ (.bi "dict.get", [.ref a]) l) : zkZ B A pl "get" (.ref a) l Φ Ψ := zkG ha F.slot_dict_get F.type_dict_get h
theorem znn {pl : Sem Bool} {a : Addr} {es : List (Str × AV)} {Φ : AV × List AV → Led → Prop} (ha : (a, zaa.dict es) ∈ l) (h : Φ (.bi "dict.pop", [.ref a]) l) : zkZ B A pl "pop" (.ref a) l Φ Ψ := zkG ha F.slot_dict_pop F.type_dict_pop h
theorem za3 {a : Addr} {xs : List AV} {x : AV} {g : zaa → Led} (hu : Up l a (.list xs) g) (hz : xs.length ≤ 10 ^ 6) (h : Φ .none (g (.list (xs ++ [x])))) : zaZ B A (.bi "list.append") [.ref a, x] l Φ Ψ := .mk <| fun s f vs G r rs => by
 cases r
 revert vs; refine VRs.consA fun _ _ r1 rs => ?_
 ·cases rs with
  | @cons v _ _ _ r2 rs =>
   cases r1; cases rs
   refine zbE (zaP G hu.mem) fun ws n hl rs => ?_
   have e : ws.size = xs.length := by have := rs.len; simpa using this
   refine call_meets F.slot_list_append hl.isList.typeIs F.entry_list_append (F.args_list_append_2 _ _) (PySem.list_append a ws n v (by rwa [e, sizeLine_eq]; walk_at "o")) ⟨hl, ?_⟩
   have T := G.turn (c' := .list (xs ++ [x])) hu (h' := s.heap.update a (Obj.mapSeq fun y => y.push v)) (fun b hb o e => (Heap.get?_update_other _ _ (Ne.symm hb)).trans e)
    (fun _ E => ⟨_, _, IsL.update hl _, by rwa [Array.toList_push]; exact (rs.mono E).append (.cons (r2.mono E) .nil)⟩) s.toks
   exact ⟨T.2, _, _, .none, T.1, h⟩
theorem VRs.init {h : Heap} {vs : List Value} {as : List AV} {b : AV} (r : VRs h vs (as ++ [b])) : ∃ us u, vs = us ++ [u] ∧ VRs h us as ∧ VR h u b := by
 induction as generalizing vs with
 | nil =>
  cases r with
  | cons r rs => cases rs; exact (zkD ([]) _ rfl .nil r)
 | cons a t ih =>
  cases r with
  | cons r rs =>
   refine zbS (ih rs) fun us u yq48 q q' => ?_
   subst yq48
   exact (zkD (_ :: us) u rfl (.cons r q) q')
theorem zfJ {a : Addr} {xs : List AV} {x : AV} {g : zaa → Led} (hu : Up l a (.list (xs ++ [x])) g) (hz : xs.length ≤ 10 ^ 6) (h : Φ x (g (.list xs))) : zaZ B A (.bi "list.pop") [.ref a] l Φ Ψ := .mk <| fun s f vs G r rs => by
 obtain rfl := r.inv
 refine xEA rs.inv1 fun r19 yq49 r1 => ?_
 subst yq49
 obtain rfl := r1.inv
 refine zbE (zaP G hu.mem) fun ws n hl rs => ?_
 have e : ws.size = xs.length + 1 := by have := rs.len; simpa using this
 refine zbS rs.init fun us u hus rus ru => ?_
 have hws : ws = (us ++ [u]).toArray := by rwa [← hus]
 have hul : us.length = xs.length := rus.len
 have hy : ws[ws.size - 1]? = some u := by
  rwa [e, hws]; simp [hul]
 refine call_meets F.slot_list_pop hl.isList.typeIs F.entry_list_pop (F.args_list_pop_1 _) (MeetsSeq.list_pop_last a ws n u hy (by rwa [e, sizeLine_eq]; walk_at "o")) ⟨hl, ?_⟩
 have T := G.turn (c' := .list xs) hu (h' := s.heap.update a (Obj.mapSeq fun y => y.eraseIdxIfInBounds (ws.size - 1))) (fun b hb o e => (Heap.get?_update_other _ _ (Ne.symm hb)).trans e)
  (fun _ E => ⟨_, _, IsL.update hl _, by
   have : (ws.eraseIdxIfInBounds (ws.size - 1)).toList = us := by
    rwa [Array.toList_eraseIdxIfInBounds, e, hws]
    simp [← hul, List.eraseIdx_append_of_length_le]
   rwa [this]; exact rus.mono E⟩) s.toks
 exact ⟨T.2, _, _, ru.mono T.2, T.1, h⟩
theorem zkU {a b : Addr} {xs ys : List AV} {g : zaa → Led} (hu : Up l a (.list xs) g) (hb : (b, zaa.list ys) ∈ l) (hz : xs.length + ys.length ≤ 10 ^ 6) (h : Φ .none (g (.list (xs ++ ys)))) : zaZ B A (.bi "list.extend") [.ref a, .ref b] l Φ Ψ := .mk <| fun s f vs G r rs => by
 obtain rfl := r.inv
 refine zbS rs.inv2 fun r19 r29 yq50 r1 r2 => ?_
 subst yq50
 obtain rfl := r1.inv; obtain rfl := r2.inv
 refine zbE (zaP G hu.mem) fun ws n hl rs => ?_
 refine zbE (zaP G hb) fun us m hl' rs' => ?_
 have e : ws.size = xs.length := by have := rs.len; simpa using this
 have e' : us.size = ys.length := by have := rs'.len; simpa using this
 refine call_meets F.slot_list_extend hl.isList.typeIs F.entry_list_extend (F.args_list_extend_2 _ _) (AutoSeq1.list_extend_list_list_0 a ws n b us m ?_ (by rwa [e, sizeLine_eq]; walk_at "o") (by rwa [e, e', sizeLine_eq]; walk_at "o")) (iAA hl hl' ?_)
 ·have : Builtin.List.listTooLong (ws.size + us.size) = false := by
   unfold Builtin.List.listTooLong
   rwa [e, e']
   rwa [sizeLine_eq]
   simp
   walk_at "o"
  rwa [this]; simp
 ·have T := G.turn (c' := .list (xs ++ ys)) hu (h' := s.heap.update a (Obj.mapSeq fun y => y ++ us)) (fun b hb o e => (Heap.get?_update_other _ _ (Ne.symm hb)).trans e)
   (fun _ E => ⟨_, _, IsL.update hl _, by rwa [Array.toList_append]; exact (rs.mono E).append (rs'.mono E)⟩) s.toks
  exact ⟨T.2, _, _, .none, T.1, h⟩
noncomputable def dictAt (es : List (Str × AV)) (k : Str) : Option AV := match es with
 | [] => none
 | p :: r => if p.1 = k then some p.2 else dictAt r k
theorem zdQ {h : Heap} {vs : List (Str × Value)} {es : List (Str × AV)} (r : KvR h vs es) (k : Str) : zjt h (valueAt vs k) (dictAt es k) := by
 induction r with
 | nil => trivial
 | @cons k' v a vs es r rs ih =>
  unfold dictAt
  unfold valueAt at ih ⊢
  rwa [List.find?_cons]
  by_cases e : k' = k
  ·simp [e]; exact r
  ·simp [e]; simpa using ih
theorem zoM {a : Addr} {es : List (Str × AV)} {k : Str} (ha : (a, zaa.dict es) ∈ l) (h : Φ ((dictAt es k).getD .none) l) : zaZ B A (.bi "dict.get") [.ref a, .str k] l Φ Ψ := .mk <| fun s f vs G r rs => by
 obtain rfl := r.inv
 refine zbS rs.inv2 fun r19 r29 yq51 r1 r2 => ?_
 subst yq51
 obtain rfl := r1.inv; (refine xE r2.inv fun _ yq52 => ?_; subst yq52)
 refine xEA (G.cells _ ha) fun kvs yq53 rk => ?_
 obtain ⟨D, hs⟩ := yq53
 refine call_meetsIn F.slot_dict_get D.typeIs F.entry_dict_get (F.args_dict_get_2 _ _) (meets_dict_get (knd := strKind B.prog B.w) (hkey := strKind_is B.prog B.w k _) (hd := hs)) (iEA _ D.mapOf ?_)
 have q := zdQ rk k
 cases e : valueAt kvs k with
 | none =>
  rw [e] at q
  cases e' : dictAt es k with
  | none => rw [e'] at h; exact .tok .none G h
  | some x => rw [e'] at q; exact q.elim
 | some v =>
  rw [e] at q
  cases e' : dictAt es k with
  | none => rw [e'] at q; exact q.elim
  | some x => rw [e'] at q h; exact .tok q G h
theorem zg0 {a : Addr} {es : List (Str × AV)} {k : Str} {d : AV} (ha : (a, zaa.dict es) ∈ l) (hk : k ∉ es.map (·.1)) (h : Φ d l) : zaZ B A (.bi "dict.pop") [.ref a, .str k, d] l Φ Ψ := .mk <| fun s f vs G r rs => by
 obtain rfl := r.inv
 refine zcs rs.inv3 fun r19 r29 r39 yq54 r1 r2 r3 => ?_
 subst yq54
 obtain rfl := r1.inv; (refine xE r2.inv fun _ yq55 => ?_; subst yq55)
 refine xEA (G.cells _ ha) fun kvs yq56 rk => ?_
 obtain ⟨D, hs⟩ := yq56
 exact call_meetsIn F.slot_dict_pop D.typeIs F.entry_dict_pop (F.args_dict_pop_3 _ _ _) (meets_dict_pop_default (knd := strKind B.prog B.w) (hkey := strKind_is B.prog B.w k _) (hd := hs) (hpart := rfl) (dflt := _)) (ze8 _ D (zdU (by rwa [rk.keys]; exact hk)) (.tok r3 G h))
theorem znz {a : Addr} {es : List (Str × AV)} {k : Str} {d x : AV} {g : zaa → Led} (hu : Up l a (.dict es) g) (hx : (k, x) ∈ es) (hz : es.length ≤ 10 ^ 6) (h : Φ x (g (.dict (zcd es k)))) : zaZ B A (.bi "dict.pop") [.ref a, .str k, d] l Φ Ψ := .mk <| fun s f vs G r rs => by
 obtain rfl := r.inv
 refine zcs rs.inv3 fun r19 r29 r39 yq57 r1 r2 r3 => ?_
 subst yq57
 obtain rfl := r1.inv; (refine xE r2.inv fun _ yq58 => ?_; subst yq58)
 refine xEA (G.cells _ hu.mem) fun kvs yq59 rk => ?_
 obtain ⟨D, hs⟩ := yq59
 refine xEA (rk.at (zaS D rk) hx) fun y hy ry => ?_
 refine call_meetsIn F.slot_dict_pop D.typeIs F.entry_dict_pop (F.args_dict_pop_3 _ _ _) (meets_dict_pop_there (knd := strKind B.prog B.w) (hkey := strKind_is B.prog B.w k _) (d := a) (rest := [_]) (hrest := .inr ⟨_, rfl⟩) (hpart := rfl)) (zd0 _ y D (by rwa [rk.len, sizeLine_eq]; walk_at "o") hy (fun h' D' hs' => ?_))
 have T := G.turn (c' := .dict (zcd es k)) hu (h' := h') (fun b hb o e => (hs'.2 b hb).trans e) (fun _ E => ⟨_, ⟨D', hs⟩, (zg9 rk).mono E⟩) (s.toks + 1)
 exact ⟨T.2, _, _, ry.mono T.2, T.1, h⟩
theorem zb8 {a : Addr} {es : List (Str × AV)} {k : Str} (ha : (a, zaa.dict es) ∈ l) (h : Φ (.bool (dictAt es k).isSome) l) : Op2 B A (compareOp .In) (.str k) (.ref a) l Φ Ψ := fun s v u G r1 r2 => by
 (refine xE r1.inv fun _ yq60 => ?_; subst yq60); obtain rfl := r2.inv
 refine xEA (G.cells _ ha) fun kvs yq61 rk => ?_
 obtain ⟨D, hs⟩ := yq61
 refine wpAny_in_of (strKind_is B.prog B.w k _) hs D.mapOf ?_
 have q := zdQ rk k
 have : (valueAt kvs k).isSome = (dictAt es k).isSome := by
  cases e : valueAt kvs k <;> cases e' : dictAt es k <;> rw [e, e'] at q <;> first | rfl | exact q.elim
 rwa [this]; exact .tok .bool G h
theorem zf3 {a : Addr} {es : List (Str × AV)} {k : Str} (ha : (a, zaa.dict es) ∈ l) (h : Φ (.bool (!(dictAt es k).isSome)) l) : Op2 B A (compareOp .NotIn) (.str k) (.ref a) l Φ Ψ := fun s v u G r1 r2 => by
 (refine xE r1.inv fun _ yq62 => ?_; subst yq62); obtain rfl := r2.inv
 refine xEA (G.cells _ ha) fun kvs yq63 rk => ?_
 obtain ⟨D, hs⟩ := yq63
 refine wpAny_notIn_of (strKind_is B.prog B.w k _) hs D.mapOf ?_
 have q := zdQ rk k
 have : (valueAt kvs k).isSome = (dictAt es k).isSome := by
  cases e : valueAt kvs k <;> cases e' : dictAt es k <;> rw [e, e'] at q <;> first | rfl | exact q.elim
 rwa [this]; exact .tok .bool G h
theorem zlo {a : Addr} {es es' : List (Str × AV)} {k : Str} {v : AV} {g : zaa → Led} {Φ : Unit → Led → Prop} (hu : Up l a (.dict es) g)
  (hst : ∀ {h : Heap} {kvs : List (Str × Value)} {vv : Value}, KvR h kvs es → (es.map (·.1)).Nodup → VR h vv v → KvR h (stored kvs k vv) es') (hz : es.length ≤ 10 ^ 6) (h : Φ () (g (.dict es'))) : zp4 B A (.ref a) (.str k) v l Φ Ψ := fun s ov iv vv G r1 r2 r3 => by
 obtain rfl := r1.inv; (refine xE r2.inv fun _ yq64 => ?_; subst yq64)
 refine xEA (G.cells _ hu.mem) fun kvs yq65 rk => ?_
 obtain ⟨D, hs⟩ := yq65
 refine wpAny_setItem_pairs (strKind_is B.prog B.w k _) D (fun h' D' hs' => ?_) (by rwa [rk.len, sizeLine_eq]; walk_at "o")
 have T := G.turn (c' := .dict es') hu (h' := h') (fun b hb o e => (hs'.2 b hb).trans e) (fun _ E => ⟨_, ⟨D', hs⟩, hst (rk.mono E) (zaS D rk) (r3.mono E)⟩) (s.toks + 1)
 exact ⟨T.2, (), _, trivial, T.1, h⟩
theorem zp0 (h : ∀ d, Φ (.ref d) ((d, zaa.dict []) :: l)) : Ev B A env l (.Dict [] [] pos) Φ Ψ := .mk <| fun s G => by
 refine wpAny_Dict_empty ?_
 have lt : sysModules < s.heap.objs.size := modules_low G.nolimit
 have G' := G.add (h' := s.heap.push { cls := .type "dict", data := .dict #[] }) (a := s.heap.objs.size) (c := .dict []) (fun b o e => Heap.get?_push_of_some _ e) (zas (Nat.le_refl _))
  ⟨[], ⟨Heap.DictOf.new _, beq_eq_false_iff_ne.mpr (Nat.ne_of_gt lt)⟩, .nil⟩ s.toks
 exact ⟨Ext.of_keeps fun _ _ e => Heap.get?_push_of_some _ e, _, _, .ref, G', h _⟩
noncomputable def isNone : AV → Bool
 | .none => true
 | _ => false
theorem zb7 {a : AV} (h : Φ (.bool (isNone a)) l) : Op2 B A (compareOp .Is) a .none l Φ Ψ := fun s v u G r1 r2 => by
 obtain rfl := r2.inv
 refine is_none ?_
 have : (v == Value.none) = isNone a := by
  refine VR.casesOn (motive_1 := fun v a _ => (v == Value.none) = isNone a) r1 ?_ ?_ ?_ ?_ ?_ ?_ ?_ ?_ ?_ <;> intros <;> first | rfl | simp
 rwa [this]; exact .here .bool G h
theorem zaK {a : AV} (h : Φ (.bool (!isNone a)) l) : Op2 B A (compareOp .IsNot) a .none l Φ Ψ := fun s v u G r1 r2 => by
 obtain rfl := r2.inv
 refine isNot_none ?_
 have : (!(v == Value.none)) = !isNone a := by
  refine VR.casesOn (motive_1 := fun v a _ => (!(v == Value.none)) = !isNone a) r1 ?_ ?_ ?_ ?_ ?_ ?_ ?_ ?_ ?_ <;> intros <;> first | rfl | simp
 rwa [this]; exact .here .bool G h
theorem zc0 {x y : Addr} {xs ys : List AV} (hx : (x, zaa.list xs) ∈ l) (hy : (y, zaa.list ys) ∈ l) (hz : xs.length + ys.length ≤ 10 ^ 6) (h : ∀ D, Φ (.ref D) ((D, zaa.list (xs ++ ys)) :: l)) : Op2 B A (binaryOp .Add) (.ref x) (.ref y) l Φ Ψ := fun s v u G r1 r2 => by
 obtain rfl := r1.inv; obtain rfl := r2.inv
 refine zbE (zaP G hx) fun ws n hl rs => ?_
 refine zbE (zaP G hy) fun us m hl' rs' => ?_
 have e : ws.size = xs.length := by have := rs.len; simpa using this
 have e' : us.size = ys.length := by have := rs'.len; simpa using this
 refine PySem.P.add_list hl hl' ?_ (by rwa [e, e', sizeLine_eq]; walk_at "o")
 have k : ∀ b o, s.heap.get? b = some o → (s.heap.push { cls := .type "list", data := .seq (ws ++ us) }).get? b = some o := fun _ _ q => Heap.get?_push_of_some _ q
 have E := Ext.of_keeps k
 exact ⟨E, _, _, .ref, zbV (tk := s.toks) G (zas (Nat.le_refl _)) k (Heap.get?_push_size _ rfl) (by rwa [Array.toList_append]; exact (rs.mono E).append (rs'.mono E)), h _⟩
theorem zaR {x y : Str} (hz : x.length + y.length ≤ 10 ^ 6) (h : Φ (.str (x ++ y)) l) : Op2 B A (binaryOp .Add) (.str x) (.str y) l Φ Ψ := fun s v u G r1 r2 => by
 (refine xE r1.inv fun _ yq66 => ?_; subst yq66); (refine xE r2.inv fun _ yq67 => ?_; subst yq67)
 exact PyProof.Rows.add_str (fun t' tk => .tok .str G h) (by rwa [sizeLine_eq]; walk_at "o")
structure At (B : zan) (A : Around) (env : Env) (op : BoolOp) (es : List Expr) (l : Led) (Φ : Bool → Led → Prop) (Ψ : XQ) : Prop where
 mk ::
 go : Tr B A BR (allTrue op es env) l Φ Ψ
theorem znV {Φ : Bool → Led → Prop} (h : Φ true l) : At B A env .And [] l Φ Ψ := .mk <| fun s G => wpAny_allTrue_And_nil (.here rfl G h)
theorem zpD {Φ : Bool → Led → Prop} (h : Φ false l) : At B A env .Or [] l Φ Ψ := .mk <| fun s G => wpAny_allTrue_Or_nil (.here rfl G h)
noncomputable abbrev AtL (B : zan) (A : Around) (env : Env) (Ψ : XQ) (op : BoolOp) (Φ : Bool → Led → Prop) (es : List Expr) (l : Led) : Prop := At B A env op es l Φ Ψ
noncomputable abbrev KB (Φ : Bool → Led → Prop) (b : Bool) (l : Led) : Prop := Φ b l
theorem zrl {e : Expr} {r : List Expr} {Φ : Bool → Led → Prop} (h : Bv B A env l e (znY (AtL B A env Ψ .And Φ r) (KB Φ false)) Ψ) : At B A env .And (e :: r) l Φ Ψ := .mk <| fun s G =>
 wpAny_allTrue_And_cons (zaE (h.go s G) (Ext.refl _) (fun b b' l1 s1 x1 r1 G1 h1 => by
  rwa [show b = b' from r1]
  cases b' with
  | true => exact wpAny_mono ((znl h1).go s1 G1) (fun _ _ r => r.ext x1) fun _ _ r => r.ext x1
  | false => exact ⟨x1, false, l1, rfl, G1, h1⟩) fun _ _ e => e)
theorem zrC {e : Expr} {r : List Expr} {Φ : Bool → Led → Prop} (h : Bv B A env l e (znY (KB Φ true) (AtL B A env Ψ .Or Φ r)) Ψ) : At B A env .Or (e :: r) l Φ Ψ := .mk <| fun s G =>
 wpAny_allTrue_Or_cons (zaE (h.go s G) (Ext.refl _) (fun b b' l1 s1 x1 r1 G1 h1 => by
  rwa [show b = b' from r1]
  cases b' with
  | true => exact ⟨x1, true, l1, rfl, G1, h1⟩
  | false => exact wpAny_mono ((zpY h1).go s1 G1) (fun _ _ r => r.ext x1) fun _ _ r => r.ext x1) fun _ _ e => e)
theorem zqE {op : BoolOp} {es : List Expr} {Φ : Bool → Led → Prop} (h : At B A env op es l Φ Ψ) : Bv B A env l (.BoolOp op es pos) Φ Ψ := .mk <| fun s G => wpAny_isTrue_BoolOp (h.go s G)
theorem zmA {e1 e2 : Expr} (h : Ev B A env l e1 (fun a l1 => Th B A a l1 (fun b l2 => if b then Ev B A env l2 e2 Φ Ψ else Φ a l2) Ψ) Ψ)
  (he : evalEach [e1, e2] env = [eval e1 env, eval e2 env] := by walk_at "r") : Ev B A env l (.BoolOp .And [e1, e2] pos) Φ Ψ := .mk <| fun s G => by
 show wpAny _ _ (boolOp pos .And (evalEach [e1, e2] env)) _ _ s
 rwa [he]
 show wpAny _ _ (do
  let v ← eval e1 env
  standAt pos
  let t ← holding [v] (truthy v)
  match BoolOp.And, t with
  | .And, false | .Or, true => pure v
  | _, _ => boolOp pos .And [eval e2 env]) _ _ s
 refine wpAny_bind (zaE (h.go s G) (Ext.refl _) (fun v a l1 s1 x1 r1 G1 h1 => ?_) fun _ _ e => e)
 refine wpAny_bind (wpAny_standAt (wpAny_bind (wpAny_holding (zaE (h1 s1 v G1 r1) x1 (fun b b' l2 s2 x2 r2 G2 h2 => ?_) fun _ _ e => e))))
 rwa [show b = b' from r2]
 cases b' with
 | false => exact wpAny_pure ⟨x1.trans x2, _, _, r1.mono x2, G2, h2⟩
 | true => exact wpAny_mono ((znl h2).go s2 G2) (fun _ _ r => r.ext (x1.trans x2)) fun _ _ r => r.ext (x1.trans x2)
theorem zp1 {e1 e2 e3 : Expr} {o1 o2 : CmpOp} {Φ : Bool → Led → Prop} (h : Ev B A env l e1 (fun a l1 => Ev B A env l1 e2 (fun b l2 => Op2 B A (compareOp o1) a b l2 (fun c l3 => Th B A c l3 (fun t l4 =>
   if t then Ev B A env l4 e3 (fun d l5 => Op2 B A (compareOp o2) b d l5 (fun c l6 => Th B A c l6 Φ Ψ) Ψ) Ψ else Φ false l4) Ψ) Ψ) Ψ) Ψ)
  (he : markedEach [o1, o2] [e2, e3] (evalEach [e2, e3] env) = [eval e2 env, eval e3 env] := by walk_at "r") : Bv B A env l (.Compare e1 [o1, o2] [e2, e3] pos) Φ Ψ := .mk <| fun s G => by
 show wpAny _ _ (isTrue (.Compare e1 [o1, o2] [e2, e3] pos) env _) _ _ s
 rwa [arm_isTrue_Compare, he]
 refine wpAny_bind (zaE (h.go s G) (Ext.refl _) (fun v a l1 s1 x1 r1 G1 h1 => ?_) fun _ _ e => e)
 show wpAny _ _ (do
  let rv ← holding [v] (eval e2 env)
  standAt pos
  let c ← holding [v, rv] (compareOp o1 v rv)
  release [v, rv] [c]
  if ← holding [c, rv] (truthy c) then testChain pos rv [o2] [eval e3 env] else pure false) _ _ s1
 refine wpAny_bind (wpAny_holding (zaE (h1.go s1 G1) x1 (fun u b l2 s2 x2 r2 G2 h2 => ?_) fun _ _ e => e))
 have x12 := x1.trans x2
 refine wpAny_bind (wpAny_standAt (wpAny_bind (wpAny_holding (zaE (h2 s2 v u G2 (r1.mono x2) r2) x12 (fun c c' l3 s3 x3 r3 G3 h3 => ?_) fun _ _ e => e))))
 have x13 := x12.trans x3
 refine wpAny_bind (wpAny_release ?_)
 refine wpAny_bind (wpAny_holding (zaE (h3 s3 c G3 r3) x13 (fun t t' l4 s4 x4 r4 G4 h4 => ?_) fun _ _ e => e))
 have x14 := x13.trans x4
 rwa [show t = t' from r4]
 cases t' with
 | false => exact wpAny_pure ⟨x14, false, l4, rfl, G4, h4⟩
 | true =>
  show wpAny _ _ (do
   let rv ← holding [u] (eval e3 env)
   standAt pos
   let c ← operate [u, rv] (compareOp o2 u rv)
   holding [c] (truthy c)) _ _ s4
  refine wpAny_bind (wpAny_holding (zaE ((znl h4).go s4 G4) x14 (fun d d' l5 s5 x5 r5 G5 h5 => ?_) fun _ _ e => e))
  have x15 := x14.trans x5
  refine wpAny_bind (wpAny_standAt (wpAny_bind (wpAny_operateT (zaE (h5 s5 u d G5 (((r2.mono x3).mono x4).mono x5) r5) x15 (fun c c' l6 s6 x6 r6 G6 h6 => ?_) fun _ _ e => e))))
  exact wpAny_holding (wpAny_mono (h6 s6 c G6 r6) (fun _ _ r => r.ext (x15.trans x6)) fun _ _ r => r.ext (x15.trans x6))
end
section
variable {B : zan} {A : Around} {env : Env} {Ψ : XQ} {L : Addr} {ls gs : List Str} {cl fl : List (Str × Addr)} {l : Led} {Θ : Fl → Led → Prop} {pos : Pos} {Φ : EQ}
noncomputable def zgY (scope : Scope) (own gs : List Str) (cs : List Str) : Bool :=
 scope.kind == .function && scope.names.all (fun x => x.2 != .cell) && scope.names.all (fun x => x.2 != .local || scope.names.lookup x.1 == some .local) && own.all (fun x => scope.names.lookup x == some .local) && gs.all (fun x => scope.names.lookup x == some .globalImplicit)
  && cs.all (fun x => scope.names.lookup x == some .free) && (scope.names.filter (fun x => x.2 == .free)).map (·.1) == cs.reverse && decide cs.Nodup && decide own.Nodup && (own ++ gs ++ cs).all zbm
theorem zgX {scope : Scope} {own gs cs : List Str} (h : zgY scope own gs cs = true) : scope.kind = .function ∧ (∀ x ∈ scope.names, x.2 ≠ .cell) ∧ (∀ x ∈ scope.names, x.2 = .local → scope.names.lookup x.1 = some .local) ∧ (∀ x ∈ own, scope.names.lookup x = some .local) ∧
  (∀ x ∈ gs, scope.names.lookup x = some .globalImplicit) ∧ (∀ x ∈ cs, scope.names.lookup x = some .free) ∧ (scope.names.filter (fun x => x.2 == .free)).map (·.1) = cs.reverse ∧ cs.Nodup ∧ own.Nodup ∧ ∀ x ∈ own ++ gs ++ cs, zbm x = true := by
 unfold zgY at h
 simp only [Bool.and_eq_true, List.all_eq_true, beq_iff_eq, bne_iff_ne, ne_eq, decide_eq_true_eq, Bool.or_eq_true] at h
 refine xA h fun yq68 h10 => ?_
 clear h
 obtain ⟨⟨⟨⟨⟨⟨⟨⟨h1, h2⟩, h3⟩, h4⟩, h5⟩, h6⟩, h7⟩, h8⟩, h9⟩ := yq68
 exact ⟨h1, h2, (fun x hx e => (h3 x hx).resolve_left (fun q => q e)), h4, h5, h6, h7, h8, h9, h10⟩
theorem zdR : ∀ (names : List (Str × NameKind)) (acc cl : List (Str × Addr)), cl.map (·.1) = ((names.filter (fun x => x.2 == .free)).map (·.1)).reverse → (∀ p ∈ cl, env.cells.lookup p.1 = some p.2) →
  (forIn names acc fun (x : Str × NameKind) (r : List (Str × Addr)) => if (x.2 == NameKind.free) = true then do let c ← cellOf env x.1; pure (ForInStep.yield ((x.1, c) :: r)) else pure (ForInStep.yield r) : Sem (List (Str × Addr))) = pure (cl ++ acc)
 | [], acc, cl, h, _ => by
  simp only [List.filter_nil, List.map_nil, List.reverse_nil, List.map_eq_nil_iff] at h
  subst h; rfl
 | (x, k) :: r, acc, cl, h, hl => by
  rwa [List.forIn_cons]
  by_cases e : (k == NameKind.free) = true
  ·rw [List.filter_cons, if_pos e, List.map_cons, List.reverse_cons] at h
   obtain ⟨a, b, rfl⟩ : ∃ a b, cl = a ++ [b] := by
    cases q : cl.reverse with
    | nil => rw [List.reverse_eq_nil_iff] at q; subst q; simp at h
    | cons b a => exact (iEE a.reverse b (by (rewrite [← List.reverse_reverse cl, q, List.reverse_cons]; with_reducible rfl)))
   rw [List.map_append] at h
   refine xA (List.append_inj' h rfl) fun h1 h2 => ?_
   have hb : b.1 = x := by simpa using h2
   have ih := zdR r (b :: acc) a h1 fun p hp => hl p (List.mem_append_left _ hp)
   rwa [if_pos e]
   have hc : cellOf env x = pure b.2 := by
    unfold cellOf
    rwa [← hb, hl b (List.mem_append_right _ (.head _))]
   rwa [hc]
   show (do let s ← (pure (ForInStep.yield ((x, b.2) :: acc)) : Sem _); _) = _
   rwa [← hb, List.append_assoc]
   exact ih
  ·rw [List.filter_cons, if_neg e] at h
   have ih := zdR r acc cl h hl
   rwa [if_neg e]
   exact ih
theorem zfI {scope : Scope} {cl : List (Str × Addr)} (h : cl.map (·.1) = ((scope.names.filter (fun x => x.2 == .free)).map (·.1)).reverse) (hl : ∀ p ∈ cl, env.cells.lookup p.1 = some p.2) : closureFor scope env = pure cl := by
 unfold closureFor
 have := zdR (env := env) scope.names [] cl h hl
 rw [List.append_nil] at this
 show ((forIn scope.names [] fun (x : Str × NameKind) (r : List (Str × Addr)) => if (x.2 == NameKind.free) = true then do let c ← cellOf env x.1; pure (ForInStep.yield ((x.1, c) :: r)) else pure (ForInStep.yield r) : Sem (List (Str × Addr))) >>= fun r => pure r >>= fun r => pure r) = _
 rwa [this]; rfl
theorem zdj {scope : Scope} {x : Str} (h : scope.names.lookup x = some .globalImplicit) : (relabel scope env).names.lookup x = some .globalImplicit := by
 unfold relabel
 dsimp only
 generalize scope.names = ns at h
 induction ns with
 | nil => cases h
 | cons p r ih =>
  obtain ⟨n, k⟩ := p
  rwa [List.map_cons]
  dsimp only
  rw [List.lookup_cons] at h
  by_cases e : (x == n) = true
  ·rw [e] at h
   have hk : k = .globalImplicit := by simpa using h
   subst hk
   rwa [if_neg (by simp), List.lookup_cons, e]
  ·have e' : (x == n) = false := by simpa using e
   rw [e'] at h
   split <;> (rwa [List.lookup_cons, e']; exact ih h)
theorem zc2 {scope : Scope} {x : Str} (h : scope.names.lookup x = some .free) (hk : env.scope.kind = .function) (hc : env.kindOf x = some .cell) : (relabel scope env).names.lookup x = some .cell := by
 unfold relabel
 dsimp only
 generalize scope.names = ns at h
 induction ns with
 | nil => cases h
 | cons p r ih =>
  obtain ⟨n, k⟩ := p
  rwa [List.map_cons]
  dsimp only
  rw [List.lookup_cons] at h
  by_cases e : (x == n) = true
  ·rw [e] at h
   have hk' : k = .free := by simpa using h
   subst hk'
   have en : x = n := by simpa using e
   subst en
   rwa [if_pos (by simp [hk, hc]), List.lookup_cons, e]
  ·have e' : (x == n) = false := by simpa using e
   rw [e'] at h
   split <;> (rwa [List.lookup_cons, e']; exact ih h)
inductive CQ (own : List Str) (C : Addr) (ks : Led) (Inv : Nat → List AV → Led → Prop) (i : Nat) (ys : List AV) (v : AV) (l3 : Led) : Prop
 | mk (m' : List (Str × Option AV)) (l'' : Led) (h1 : m'.map (·.1) = own) (h2 : Le ((C, zaa.ns m') :: (ks ++ l'')) l3) (h3 : Inv (i + 1) (ys ++ [v]) l'') : CQ own C ks Inv i ys v l3
noncomputable abbrev zrN (B : zan) (A : Around) (env : Env) (elt : Expr) (Φ : EQ) (_ : Unit) (l : Led) : Prop := Ev B A env l elt Φ (fun _ _ => False)
noncomputable abbrev zrn (Φ : EQ) (ys : List AV) (l : Led) : Prop := ∀ D, Φ (.ref D) ((D, zaa.list ys) :: l)
inductive KUp (Θ : Fl → Led → Prop) (C : Addr) (l2 : Led) : Prop
 | mk (m' : List (Str × Option AV)) (l3 : Led) (h1 : l2 = (C, zaa.ns m') :: l3) (h2 : Θ .next l3) : KUp Θ C l2
noncomputable abbrev zpP (B : zan) (A : Around) (env : Env) (y : Str) (Θ : Fl → Led → Prop) (ys : List AV) (l' : Led) : Prop := ∀ C D m, St B A env y (.ref D) ((C, zaa.ns m) :: (D, zaa.list ys) :: l') (fun _ l2 => KUp Θ C l2) (fun _ _ => False)
noncomputable def zqM (B : zan) (A : Around) (env : Env) (own gs' cs : List Str) (cl' : List (Str × Addr)) (t elt : Expr) (xs : List AV) (Inv : Nat → List AV → Led → Prop) : Prop :=
 ∀ C env' i x ys m ks l', xs[i]? = some x → Inv i ys l' → zaf env' C own gs' cl' [] → m.map (·.1) = own →
  As B A env' t x ((C, zaa.ns m) :: (ks ++ l')) (zrN B A env' elt (CQ own C ks Inv i ys)) (fun _ _ => False)
inductive zp6 (B : zan) (A : Around) (env : Env) (own gs' cs : List Str) (cl' : List (Str × Addr)) (t elt : Expr) (Fin : List AV → Led → Prop) (a : AV) (l1 : Led) : Prop
 | mk (xs : List AV) (Req : Led → Prop) (Inv : Nat → List AV → Led → Prop) (l2 : Led) (T : Expr → Prop) (h1 : It B A T a xs Req l1 l2) (h2 : T t) (h3 : xs.length ≤ 10 ^ 6) (h4 : Inv 0 [] l2) (h5 : ∀ i ys l' k, Inv i ys l' → Req (k ++ l'))
   (h6 : zqM B A env own gs' cs cl' t elt xs Inv) (h7 : ∀ ys l', Inv xs.length ys l' → Fin ys l') : zp6 B A env own gs' cs cl' t elt Fin a l1
theorem zgO {h0 : Heap} {e : Value} {s : Shared} (x : Exn B h0 (fun _ _ => False) e s) : False := Exn.el x fun _ _ _ _ _ _ _ f => f
theorem zgZ {R : Result → Shared → Prop} {elt target iter : Expr} {scope : Scope} {pos : Pos} {it acc : Value} {env : Env} (I : Nat → Shared → Prop)
  (turn : ∀ n s, I n s → wpAny (model B.prog B.w) A (pyNext it) (fun r s₁ => match r with
   | none => R (.ok .next) s₁
   | some v => wpAny (model B.prog B.w) A (letOwnedTupleGo target it v) (fun _ s₁' => wpAny (model B.prog B.w) A (assign target env v) (fun _ s₂ => wpAny (model B.prog B.w) A (eval elt env) (fun x s₃ =>
     wpAny (model B.prog B.w) A (call (.builtin "list.append") [acc, x]) (fun _ s₄ => ∃ m, m < n ∧ I m s₄) (fun _ _ => False) s₃)
     (fun _ _ => False) s₂) (fun _ _ => False) s₁') (fun _ _ => False) s₁) (fun _ _ => False) s)
  (n : Nat) {s : Shared} (h : I n s) :
  codeAny (model B.prog B.w) A (.compLoop (.ListComp elt [⟨target, iter, [], 0⟩] scope pos) 0 it acc env) R s := by
 refine codeAny_loop rfl I (fun n s hI => ?_) n h
 show wpAny _ _ ((compTurn (.ListComp elt [⟨target, iter, [], 0⟩] scope pos) 0 it acc env).onRaise (fun x => do noteFrame x env; theTreesLotGoes x)) _ _ s
 refine wpAny_noted ?_
 rwa [compTurn_list1]
 refine wpAny_bind (wpAny_standAt (wpAny_bind (wpAny_mono (turn n s hI) (fun r s₁ h₁ => ?_) fun _ _ h' => h'.elim)))
 cases r with
 | none => exact wpAny_pure h₁
 | some v =>
  refine wpAny_bind (wpAny_mono h₁ (fun _ s₁' h₁' => ?_) fun _ _ h' => h'.elim)
  exact wpAny_bind (wpAny_mono h₁' (fun _ s₂ h₂ => wpAny_bind (wpAny_bind (wpAny_mono h₂ (fun x s₃ h₃ => wpAny_bind (wpAny_mono h₃
   (fun _ s₄ h₄ => wpAny_pure (wpAny_pure ⟨rfl, h₄⟩)) fun _ _ h' => h'.elim)) fun _ _ h' => h'.elim))) fun _ _ h' => h'.elim)
theorem zbt {α : Type} {t : Sem α} {s : Shared} {Q : α → Shared → Prop} {E : Value → Shared → Prop} {Φ : α → Shared → Prop} {h0 : Heap} (h : wpAny (model B.prog B.w) A t Φ (Exn B h0 (fun _ _ => False)) s) (hq : ∀ a s', Φ a s' → Q a s') : wpAny (model B.prog B.w) A t Q E s :=
 wpAny_mono h hq fun _ _ x => (zgO x).elim
theorem zgW {p2 : Pos} {elt t iter : Expr} {scope : Scope} {own gs' cs : List Str} {cl' : List (Str × Addr)} {use : Option (Value → Sem Unit)} {s : Shared} {Q : Value → Shared → Prop} {E : Value → Shared → Prop} {Fin : List AV → Led → Prop}
  (Fo : zaf env L ls gs cl fl) (ok : zgY scope own gs' cs = true) (hcl : cl'.map (·.1) = cs) (hcs : ∀ p ∈ cl', p ∈ cl) (G : zaB B l s)
  (h : Ev B A env l iter (zp6 B A env own gs' cs cl' t elt Fin) (fun _ _ => False))
  (hs : ∀ x, foldedSetIterable iter env x = pure x)
  (fin : ∀ C D ys l' m s', Ext s.heap s'.heap → m.map (·.1) = own → zaB B ((C, zaa.ns m) :: (D, zaa.list ys) :: l') s' → Fin ys l' → compPost (model B.prog B.w) A E use Q (.ref D) C (.ok .next) s') :
  wpAny (model B.prog B.w) A (comprehension (.ListComp elt [⟨t, iter, [], 0⟩] scope pos) scope env p2 (newList []) false (eval iter env) use) Q E s := by
 refine zfo (zgX ok) fun p1 p2 p3 p4 p5 p6 p7 p8 p9 p10 => ?_
 have hclos : closureFor scope env = pure cl' := zfI (by rwa [p7, List.reverse_reverse]; exact hcl) fun p hp => (Fo.cel p (hcs p hp)).1
 refine wpAny_comprehension_free (g := ⟨t, iter, [], 0⟩) (gs := []) rfl hs hclos p1 p3 ?_
 refine zbt (h.go s G) fun a s1 q0 => Res.el q0 fun x1 a' l1 r1 G1 h1 => ?_
 obtain ⟨xs, Req, Inv, l2, T, hit, hT, hlen, h0, hreq, turn, done⟩ := h1
 refine wpAny_mono (hit s1 a E G1 r1) (fun r s2 q => ?_) fun _ _ q => q
 refine zfN q fun I S lI yq69 x2 It hS G2 => ?_
 clear q
 subst yq69
 refine wpAny_newObj_type ?_
 have k3 : ∀ b o, s2.heap.get? b = some o → (s2.heap.push { cls := .type "list", data := .seq ([] : List Value).toArray }).get? b = some o := fun _ _ e => Heap.get?_push_of_some _ e
 have G3 := zbV (tk := s2.toks) (n := 0) G2 (zas (Nat.le_refl _)) k3 (D := s2.heap.objs.size) (vs := #[]) (xs := []) (Heap.get?_push_size _ rfl) .nil
 have x3 := (x1.trans x2).trans (Ext.of_keeps k3)
 generalize hs3 : ({ s2 with heap := s2.heap.push { cls := .type "list", data := .seq ([] : List Value).toArray }, toks := s2.toks } : Shared) = s3 at G3
 have es3 : ({ s2 with heap := s2.heap.push { cls := .type "list", dict := none, data := .seq ([] : List Value).toArray } } : Shared) = s3 := by rwa [← hs3]
 have x3' : Ext s.heap s3.heap := by rwa [← hs3]; exact x3
 have y3 : Ext s2.heap s3.heap := by rwa [← hs3]; exact Ext.of_keeps k3
 clear x3 hs3 es3
 generalize s2.heap.objs.size = D at G3
 refine wpAny_newFunctionEnv p2 (by intro y hy; simp at hy) (fun h4 hns hsb => ?_) p1
 have k4 : ∀ b o, s3.heap.get? b = some o → h4.get? b = some o := fun b o e => hsb.extBut b o (Nat.ne_of_lt (Heap.lt_size e)) (Heap.get?_push_of_some _ e)
 generalize hC : s3.heap.objs.size = C at hns hsb
 have hCn : s3.heap.get? C = none := zas (by rwa [← hC]; exact Nat.le_refl _)
 have m0 : za2 B h4 C (.ns (own.map fun x => (x, none))) := by
  refine ⟨by rwa [List.map_map]; exact (List.map_id own).symm ▸ p9, _, hns, fun x => ?_⟩
  rwa [zdN]; trivial
 have G4 := G3.add k4 hCn m0 s3.toks
 have E4 := Ext.of_keeps k4
 generalize henv : ({ newEnv scope C env.globals cl' env.qual none .none (some env) builtinsNs with scope := relabel scope env } : Env) = env'
 have Fo' : zaf env' C own gs' cl' [] := by
  subst henv
  refine ⟨rfl, p1, Fo.globals, Fo.builtins, fun x hx => lookup_relabel_local (p4 x hx), fun x hx => ?_, fun p hp => ?_, fun p hp => (nomatch hp), fun x hx => ?_⟩
  ·exact zdj (p5 x hx)
  ·refine ⟨zaW (l := cl') (by rwa [hcl]; exact p8) hp, ?_⟩
   have hpc : p.1 ∈ cs := by rwa [← hcl]; exact List.mem_map_of_mem hp
   exact zc2 (p6 _ hpc) Fo.kind (Fo.cel p (hcs p hp)).2
  ·have := p10 x (by rw [hcl] at hx; simpa using hx)
   unfold zbm at this
   simpa using this
 have locE : env'.locals = C := by subst henv; rfl
 have loop : codeAny (model B.prog B.w) A (.compLoop (.ListComp elt [⟨t, iter, [], 0⟩] scope pos) 0 (.ref I) (.ref D) env') (compPost (model B.prog B.w) A E use Q (.ref D) C) { s3 with heap := h4, toks := s3.toks + ([] : List (Str × Value)).length } := by
  refine zgZ (fun n s' => Ext s.heap s'.heap ∧ Ext s2.heap s'.heap ∧ ∃ i ys lI l' m, i + n = xs.length ∧ ys.length = i ∧ S i lI ∧ Inv i ys l' ∧ m.map (·.1) = own ∧ zaB B ((C, zaa.ns m) :: (((D, zaa.list ys) :: lI) ++ l')) s') (fun n s5 hI => ?_) xs.length
   ⟨(x3'.trans E4), (y3.trans E4), 0, ([]), lI, l2, (own.map fun x => (x, none)), (by walk_at "o"), rfl, hS, h0, (by rwa [List.map_map]; exact List.map_id _), G4⟩
  refine zfO hI ?_; clear hI; intro x5 y5 i ys lI l' m hi hys hS hI hm G5
  have perm5 : ((C, zaa.ns m) :: (((D, zaa.list ys) :: lI) ++ l')).Perm (lI ++ ((C, zaa.ns m) :: (D, zaa.list ys) :: l')) := by
   show ((C, zaa.ns m) :: (D, zaa.list ys) :: (lI ++ l')).Perm _
   refine List.Perm.trans ?_ List.perm_middle.symm
   exact (List.perm_middle.symm).cons _
  have G5' := G5.perm perm5.symm
  have hr' : Req ((C, zaa.ns m) :: (D, zaa.list ys) :: l') := hreq i ys l' [(C, zaa.ns m), (D, zaa.list ys)] hI
  cases hx : xs[i]? with
  | none =>
   have : i = xs.length := by have := List.getElem?_eq_none_iff.mp hx; walk_at "o"
   subst this
   refine wpAny_mono (It.stop lI _ s5 _ y5 hS hr' G5') (fun r s6 q => ?_) fun _ _ q => q
   refine xAA q fun yq70 x6 G6 => ?_
   clear q
   subst yq70
   exact fin C D ys l' m s6 (x5.trans x6) hm G6 (done _ _ hI)
  | some x =>
   refine wpAny_mono (It.next i x lI _ s5 (fun _ _ => False) y5 hx hS hr' G5') (fun r s6 q => ?_) fun _ _ q => q
   refine ziF q fun v yq71 x6 rv hlot => ?_
   clear q
   subst yq71
   refine wpAny_mono (hlot t (fun _ _ => False) hT) (fun _ s7 q => ?_) fun _ _ q => q
   refine zdx q fun lI7 x7 hS7 G7 => ?_
   clear q
   have perm7 : ((C, zaa.ns m) :: (((D, zaa.list ys) :: lI7) ++ l')).Perm (lI7 ++ ((C, zaa.ns m) :: (D, zaa.list ys) :: l')) := by
    show ((C, zaa.ns m) :: (D, zaa.list ys) :: (lI7 ++ l')).Perm _
    refine List.Perm.trans ?_ List.perm_middle.symm
    exact (List.perm_middle.symm).cons _
   have G8 := G7.perm perm7
   refine zbt (turn C env' i x ys m ((D, zaa.list ys) :: lI7) l' hx hI Fo' hm s7 v G8 (rv.mono x7)) fun _ s8 q0 => Res.el q0 fun x8 _ l8 _ G9 h8 => ?_
   refine zbt (h8.go s8 G9) fun y s9 q0 => Res.el q0 fun x9 b l9 ry G10 q1 => CQ.rec (fun m' l'' hm' hle hI' => ?_) q1
   have G11 := G10.le hle
   have hi' : i < xs.length := (List.getElem?_eq_some_iff.mp hx).1
   have ap := za3 (B := B) (A := A) (Ψ := fun _ _ => False) (a := D) (xs := ys) (x := b) (l := (C, zaa.ns m') :: (((D, zaa.list ys) :: lI7) ++ l'')) (Φ := fun _ l => l = (C, zaa.ns m') :: (((D, zaa.list (ys ++ [b])) :: lI7) ++ l'')) (g := fun c => (C, zaa.ns m') :: (((D, c) :: lI7) ++ l''))
    (.tail .head) (by walk_at "o") rfl
   refine zbt (ap.go s9 _ _ G11 .bi (.cons .ref (.cons ry .nil))) fun _ s10 q0 => Res.el q0 fun x10 _ l10 _ G12 h10 => ?_
   subst h10
   have X := ((((x6.trans x7).trans x8).trans x9).trans x10)
   exact ⟨(n - 1), (by walk_at "o"), (x5.trans X), (y5.trans X), (i + 1), (ys ++ [b]), lI7, l'', m', (by walk_at "o"), (by simp [hys]), hS7, hI', hm', G12⟩
 subst henv
 have perm4 : ((C, zaa.ns (own.map fun x => (x, none))) :: ((D, zaa.list []) :: (lI ++ l2))).Perm (lI ++ ((C, zaa.ns (own.map fun x => (x, none))) :: (D, zaa.list []) :: l2)) := by
  refine List.Perm.trans ?_ List.perm_middle.symm
  exact (List.perm_middle.symm).cons _
 exact codeAny_compStart_list loop (It.self 0 lI _ _ _ _ (y3.trans E4) hS (G4.perm perm4.symm) loop)
theorem znb {s : Shared} (G : zaB B l s) {C : Addr} {m : List (Str × Option AV)} (h : (C, zaa.ns m) ∈ l) : ∃ mm, s.heap.Ns C mm := let ⟨_, mm, n, _⟩ := G.cells _ h; ⟨mm, n⟩
theorem za8 {elt t iter : Expr} {scope : Scope} {own gs' cs : List Str} {cl' : List (Str × Addr)} (Fo : zaf env L ls gs cl fl) (ok : zgY scope own gs' cs = true) (hcl : cl'.map (·.1) = cs) (hcs : ∀ p ∈ cl', p ∈ cl)
  (h : Ev B A env l iter (zp6 B A env own gs' cs cl' t elt (zrn Φ)) (fun _ _ => False))
  (hs : ∀ x, foldedSetIterable iter env x = pure x := by intro _; rfl) : Ev B A env l (.ListComp elt [⟨t, iter, [], 0⟩] scope pos) Φ Ψ := .mk <| fun s G => by
 show wpAny _ _ (eval (.ListComp elt [⟨t, iter, [], 0⟩] scope pos) env) _ _ s
 rwa [eval_ListComp]
 refine zgW (use := none) (Fin := zrn Φ) Fo ok hcl hcs G h hs fun C D ys l' m s' x hm G' hf => ?_
 refine xE (znb G' (.head _)) fun mm hn => ?_
 refine ⟨mm, hn, fun h' sb => ?_⟩
 have T := zaB.letGo G' (h' := h') (fun b hb o e => sb.extBut b o hb e) s'.toks
 exact ⟨x.trans T.2, _, _, .ref, T.1, hf D⟩
theorem zc9 {y : Str} {py : Pos} {elt t iter : Expr} {scope : Scope} {own gs' cs : List Str} {cl' : List (Str × Addr)} {spos : Pos} (Fo : zaf env L ls gs cl fl) (hy : y ∈ ls) (hline : (py.line == pos.line) = true)
  (hno : (scope.names.any fun (n, k) => n == y && (k == .local || k == .cell)) = false) (ok : zgY scope own gs' cs = true) (hcl : cl'.map (·.1) = cs) (hcs : ∀ p ∈ cl', p ∈ cl)
  (h : Ev B A env l iter (zp6 B A env own gs' cs cl' t elt (zpP B A env y Θ)) (fun _ _ => False))
  (hs : ∀ x, foldedSetIterable iter env x = pure x := by intro _; rfl) : Ex1 B A env l (.Assign [.Name y py] (.ListComp elt [⟨t, iter, [], 0⟩] scope pos) spos) Θ Ψ := .mk <| fun s G => by
 have hbk : env.blockKind = .function := by unfold Env.blockKind; rwa [Fo.kind]; rfl
 have hsw : swapsWith (.ListComp elt [⟨t, iter, [], 0⟩] scope pos) (some (.Name y py)) spos.line env = pure true := by
  show (pure (env.blockKind == .function && env.kindOf y == some .local && py.line == pos.line && !(scope.names.any fun (n, k) => n == y && (k == .local || k == .cell))) : Sem Bool) = pure true
  rwa [hbk, Fo.loc y hy, hline, hno]; rfl
 show wpAny _ _ (exec (.Assign [.Name y py] (.ListComp elt [⟨t, iter, [], 0⟩] scope pos) spos) env) _ _ s
 rwa [exec_Assign_Name_used _ _ _ _ hsw]
 refine wpAny_bind (wpAny_standAt (wpAny_bind ?_))
 show wpAny _ A (do let _ ← comprehension (.ListComp elt [⟨t, iter, [], 0⟩] scope pos) scope env _ (newList []) false (eval iter env) (some (assign (.Name y py) env))) _ _ s
 refine wpAny_bind (wpAny_mono (zgW (use := some (assign (.Name y py) env)) (Q := fun _ s' => Res B FR s.heap Θ .next s') (E := Exn B s.heap Ψ)
  (Fin := zpP B A env y Θ) Fo ok hcl hcs G h hs fun C D ys l' m s' x hm G' hf => ?_)
  (fun _ s' hq => wpAny_pure (wpAny_pure hq)) fun _ _ e => e)
 show wpAny _ A (assign (.Name y py) env (.ref D)) _ _ _
 refine PyProof.Rows.assign_Name (zbt (hf C D m s' (.ref D) G' .ref) fun _ s2 ⟨x2, _, l2, _, G2, m', l3, e, hΘ⟩ => ?_)
 subst e
 refine xE (znb G2 (.head _)) fun mm hn => ?_
 refine (iEA mm hn (fun h' sb => ?_))
 have T := zaB.letGo G2 (h' := h') (fun b hb o e => sb.extBut b o hb e) s2.toks
 exact ⟨(x.trans x2).trans T.2, _, _, .next, T.1, hΘ⟩
end
section
variable {B : zan} {A : Around} {env : Env} {Ψ : XQ} {l : Led} {Θ : Fl → Led → Prop} {pos : Pos} {Φ : EQ}
theorem zhy {h : Heap} {vs : Array Value} {ns : List Int} (r : VRs h vs.toList (ns.map .int)) {i : Nat} {v : Value} (e : vs[i]? = some v) : ∃ t, v = .int (ns.getD i 0) t := by
 obtain ⟨hi, e'⟩ := Array.getElem?_eq_some_iff.mp e
 refine xEA (r.atA hi) fun x ex rx => ?_
 rw [List.getElem?_map] at ex
 cases q : ns[i]? with
 | none => rw [q] at ex; cases ex
 | some n =>
  rw [q] at ex
  simp at ex
  subst ex
  rw [e'] at rx
  cases rx
  exact ⟨_, by rewrite [List.getD_eq_getElem?_getD, q]; rfl⟩
theorem zeH (ns : List Int) : ∀ j, j ≤ ns.length → preSum (fun i => ns.getD i 0) j = (ns.take j).sum
 | 0, _ => rfl
 | j + 1, h => by
  unfold preSum
  rwa [zeH ns j (by walk_at "o"), List.take_add_one, List.sum_append]
  have : ns[j]? = some ns[j] := List.getElem?_eq_getElem (by walk_at "o")
  simp [List.getD_eq_getElem?_getD, this]
theorem zoK {a : Addr} {ns : List Int} (hh : A.handled = none) (ha : (a, zaa.list (ns.map .int)) ∈ l) (hb : ∀ j, j ≤ ns.length → -(2 ^ 63) ≤ (ns.take j).sum ∧ (ns.take j).sum < 2 ^ 63) (hb2 : ∀ n ∈ ns, -(2 ^ 63) ≤ n ∧ n < 2 ^ 63) (h : Φ (.int ns.sum) l) :
  zaZ B A (.bi "sum") [.ref a] l Φ Ψ := .mk <| fun s f vs G r rs => by
 cases r
 revert vs; refine VRs.consA fun _ _ r1 rs => ?_
 ·cases r1; cases rs
  refine zbE (zaP G ha) fun ws n hl rs => ?_
  have e : ws.size = ns.length := by have := rs.len; simpa using this
  refine call_sum_walk (wpAny_pyIter_list hl.isList ?_)
  have k : ∀ b o, s.heap.get? b = some o → (s.heap.push { cls := .type "list_iterator", data := .fields #[.ref a, .int 0 0] }).get? b = some o := fun _ _ e => Heap.get?_push_of_some _ e
  have hlt : a < s.heap.objs.size := Heap.lt_size hl
  refine ⟨_, ([_, a]), ([_]), _, _, _, (fun i => ns.getD i 0), rfl, (Walks.list (A := A.in1) hh _ a (Nat.ne_of_lt hlt) ws), ⟨⟨_, Heap.get?_push_size _ rfl, rfl, rfl⟩, hl.isList.push _⟩, (fun c hc => ?_), (fun i v hv => zhy rs hv), (fun j hj => ⟨?_, ?_⟩), (fun h' tk t' kk => ?_)⟩
  ·rwa [Heap.size_push]
   refine mcE hc ?_ fun c hc => ?_
   ·exact Nat.lt_succ_self _
   ·refine mcE hc ?_ fun c hc => ?_
    ·exact Nat.lt_succ_of_lt hlt
    ·cases hc
  ·have hj' : j < ns.length := by walk_at "o"
   have : ns.getD j 0 = ns[j] := by rwa [List.getD_eq_getElem?_getD, List.getElem?_eq_getElem hj']; rfl
   show InLong (ns.getD j 0)
   rwa [this]; exact hb2 _ (List.getElem_mem hj')
  ·rwa [zeH ns (j + 1) (by walk_at "o")]; exact hb _ (by walk_at "o")
  ·have k2 : ∀ b o, s.heap.get? b = some o → h'.get? b = some o := fun b o q => kk b o (fun hm => by
    rcases List.mem_cons.mp hm with rfl | hm
    ·exact absurd (Heap.lt_size q) (Nat.lt_irrefl _)
    ·cases hm) (k b o q)
   have es : preSum (fun i => ns.getD i 0) ws.size = ns.sum := by rwa [zeH ns _ (by walk_at "o"), e, List.take_length]
   rwa [es]
   exact ⟨Ext.of_keeps k2, _, _, .int, G.grow k2 tk, h⟩
theorem ze6 (ns : List Int) : ∀ k, k < ns.length → argBest (fun i j => decide (ns.getD i 0 > ns.getD j 0)) k ≤ k ∧ ∀ j, j ≤ k → ns.getD j 0 ≤ ns.getD (argBest (fun i j => decide (ns.getD i 0 > ns.getD j 0)) k) 0
 | 0, _ => ⟨Nat.le_refl _, fun j hj => by rwa [show j = 0 by walk_at "o"]; exact Int.le_refl _⟩
 | k + 1, h => by
  refine xA (ze6 ns k (by walk_at "o")) fun h1 h2 => ?_
  unfold argBest
  by_cases q : ns.getD (k + 1) 0 > ns.getD (argBest (fun i j => decide (ns.getD i 0 > ns.getD j 0)) k) 0
  ·rwa [if_pos (by simpa using q)]
   refine ⟨Nat.le_refl _, fun j hj => ?_⟩
   by_cases e : j = k + 1
   ·rwa [e]; exact Int.le_refl _
   ·have := h2 j (by walk_at "o"); walk_at "o"
  ·rwa [if_neg (by simpa using q)]
   refine ⟨by walk_at "o", fun j hj => ?_⟩
   by_cases e : j = k + 1
   ·rwa [e]; walk_at "o"
   ·exact h2 j (by walk_at "o")
theorem zhH {a : Addr} {ns : List Int} (hh : A.handled = none) (ha : (a, zaa.list (ns.map .int)) ∈ l) (hn : ns ≠ []) (h : ∀ m ∈ ns, (∀ n ∈ ns, n ≤ m) → Φ (.int m) l) :
  zaZ B A (.bi "max") [.ref a] l Φ Ψ := .mk <| fun s f vs G r rs => by
 cases r
 revert vs; refine VRs.consA fun _ _ r1 rs => ?_
 ·cases r1; cases rs
  refine zbE (zaP G ha) fun ws n hl rs => ?_
  have e : ws.size = ns.length := by have := rs.len; simpa using this
  have hpos : 0 < ns.length := List.length_pos_iff.mpr hn
  refine call_max_walk (wpAny_pyIter_list hl.isList ?_)
  have k : ∀ b o, s.heap.get? b = some o → (s.heap.push { cls := .type "list_iterator", data := .fields #[.ref a, .int 0 0] }).get? b = some o := fun _ _ e => Heap.get?_push_of_some _ e
  have hlt : a < s.heap.objs.size := Heap.lt_size hl
  refine ⟨_, ([_, a]), ([_]), _, _, _, _, rfl, (Walks.list (A := A.in1) hh _ a (Nat.ne_of_lt hlt) ws), ⟨⟨_, Heap.get?_push_size _ rfl, rfl, rfl⟩, hl.isList.push _⟩, (fun c hc => ?_), (by walk_at "o"), (CmpOf.ints_gt (fun i => ns.getD i 0) (fun i v hv => zhy rs hv)), (fun v h' tk hv kk => ?_)⟩
  ·rwa [Heap.size_push]
   refine mcE hc ?_ fun c hc => ?_
   ·exact Nat.lt_succ_self _
   ·refine mcE hc ?_ fun c hc => ?_
    ·exact Nat.lt_succ_of_lt hlt
    ·cases hc
  ·have k2 : ∀ b o, s.heap.get? b = some o → h'.get? b = some o := fun b o q => kk b o (fun hm => by
    rcases List.mem_cons.mp hm with rfl | hm
    ·exact absurd (Heap.lt_size q) (Nat.lt_irrefl _)
    ·cases hm) (k b o q)
   refine xE (zhy rs hv) fun t yq72 => ?_
   subst yq72
   refine xA (ze6 ns (ws.size - 1) (by walk_at "o")) fun b1 b2 => ?_
   generalize argBest (fun i j => decide (ns.getD i 0 > ns.getD j 0)) (ws.size - 1) = bi at *
   have hbi : bi < ns.length := by walk_at "o"
   have eb : ns.getD bi 0 = ns[bi] := by rwa [List.getD_eq_getElem?_getD, List.getElem?_eq_getElem hbi]; rfl
   refine ⟨Ext.of_keeps k2, _, _, .int, G.grow k2 tk, h _ (by rwa [eb]; exact List.getElem_mem hbi) fun n hn => ?_⟩
   obtain ⟨j, hj, rfl⟩ := List.getElem_of_mem hn
   have := b2 j (by walk_at "o")
   rw [List.getD_eq_getElem?_getD, List.getElem?_eq_getElem hj] at this
   exact this
theorem zrd {i : Int} {k : Nat} {p : Pos} (h : Φ (.int (-i)) l) : Ev B A env l (.UnaryOp .USub (.Constant (.int i) k p) pos) Φ Ψ := .mk <| fun s G => by
 show wpAny _ _ (eval (.UnaryOp .USub (.Constant (.int i) k p) pos) env) _ _ s
 rwa [arm_eval_UnaryOp]
 refine wpAny_bind (wpAny_Constant_int (wpAny_bind (wpAny_standAt (wpAny_holding ?_))))
 exact PyProof.Rows.neg_int (.tok .int (G.toks _) h)
end
section
variable {B : zan} {A : Around} {env : Env} {Ψ : XQ} {l : Led} {Θ : Fl → Led → Prop} {pos : Pos} {Φ : EQ}
noncomputable def zni : AV → Bool
 | .tup _ => true
 | _ => false
noncomputable def zmD : AV → Bool
 | .ref _ => false
 | .ty _ => false
 | .bi _ => false
 | _ => true
theorem zc1 : typeOf (.type "tuple") = pure (.type "type") := by kernel_rfl
theorem zev : isSubtype (.type "bytes") (.type "tuple") = pure false := by rwa [isSubtype_type]; kernel_rfl
theorem zfa : isSubtype (.type "NoneType") (.type "tuple") = pure false := by rwa [isSubtype_type]; kernel_rfl
theorem zhg : isSubtype (.type "tuple") (.type "tuple") = pure true := by rwa [isSubtype_type]; kernel_rfl
theorem zbZ {a : AV} (ha : zmD a = true) (h : Φ (.bool (zni a)) l) : zaZ B A (.bi "isinstance") [a, .ty "tuple"] l Φ Ψ := .mk <| fun s f vs G r rs => by
 obtain rfl := r.inv
 refine zbS rs.inv2 fun r19 r29 yq73 r1 r2 => ?_
 subst yq73
 obtain rfl := r2.inv
 cases r1 with
 | none => exact call_isinstance (isinstance_false_none (by decide +kernel) zc1 zfa) (.tok .bool G h)
 | bool => exact PySem.IsiPair.bool_tuple (.tok .bool G h)
 | int => exact PySem.IsiPair.int_tuple (.tok .bool G h)
 | str => exact PySem.IsiPair.str_tuple (.tok .bool G h)
 | bytes =>
  refine call_isinstance_of ?_ (by intro e; cases e)
  obtain ⟨hh, g, d, t, os⟩ := s
  exact isinstance_nested_false_bytes (by decide +kernel) zc1 zev (.tok .bool G h)
 | tup t rs => exact call_isinstance_yes (Tx := "tuple") ⟨_, t.choose_spec, rfl⟩ zc1 zhg (.here .bool G h)
 | ref => cases ha
 | ty => cases ha
 | bi => cases ha
theorem ze1 {i : Int} (h : Φ (.bool false) l) : zaZ B A (.bi "isinstance") [.int i, .ty "bool"] l Φ Ψ := .mk <| fun s f vs G r rs => by
 obtain rfl := r.inv
 refine zbS rs.inv2 fun r19 r29 yq74 r1 r2 => ?_
 subst yq74
 (refine xE r1.inv fun _ yq75 => ?_; subst yq75); obtain rfl := r2.inv
 exact PySem.IsiPair.int_bool (.tok .bool G h)
theorem zkk : typeOf (.type "int") = pure (.type "type") := by kernel_rfl
theorem zgy : isSubtype (.type "int") (.type "int") = pure true := by rwa [isSubtype_type]; kernel_rfl
theorem zfl {i : Int} (h : Φ (.bool true) l) : zaZ B A (.bi "isinstance") [.int i, .ty "int"] l Φ Ψ := .mk <| fun s f vs G r rs => by
 obtain rfl := r.inv
 refine zbS rs.inv2 fun r19 r29 yq76 r1 r2 => ?_
 subst yq76
 (refine xE r1.inv fun _ yq77 => ?_; subst yq77); obtain rfl := r2.inv
 exact call_isinstance_yes (Tx := "int") (typeIs_int _ _ _) zkk zgy (.here .bool G h)
theorem zfp {C : Addr} {vs : List Value} : (A.under (.builtin "type.__call__" ⟨.ref C :: vs, []⟩)).handled = A.handled ∧ (A.under (.builtin "type.__call__" ⟨.ref C :: vs, []⟩)).depth ≤ A.depth + 1 ∧
  (A.under (.builtin "type.__call__" ⟨.ref C :: vs, []⟩)).frames = A.frames ∧ (A.under (.builtin "type.__call__" ⟨.ref C :: vs, []⟩)).units ≤ A.units + 4 := by
 refine (zjf rfl ?_ ?_ ?_)
 ·show A.depth + (Code.builtin "type.__call__" ⟨.ref C :: vs, []⟩).weight ≤ _
  have : (Code.builtin "type.__call__" ⟨.ref C :: vs, []⟩).weight ≤ 1 := by
   with_unfolding_all exact (by decide : (1 : Nat) ≤ 1)
  walk_at "o"
 ·obtain ⟨hd, d, fr, gs, u⟩ := A
  cases fr <;> rfl
 ·show A.units + (Code.builtin "type.__call__" ⟨.ref C :: vs, []⟩).cUnits ≤ _
  have : (Code.builtin "type.__call__" ⟨.ref C :: vs, []⟩).cUnits ≤ 4 := by
   with_unfolding_all exact (by decide : (1 : Nat) ≤ 4)
  walk_at "o"
theorem zcE {C fI : Addr} {as : List AV} (hm : makesIn B.K C = true) (hi : findIn B.K (.ref C) "__init__" = some (some (.ref fI))) (hf : typeIn B.K (.ref fI) = some (.type "function"))
  (h : ∀ (A' : Around) x d, A'.handled = A.handled → A'.depth ≤ A.depth + 1 → A'.frames = A.frames → A'.units ≤ A.units + 4 → Fn B A' (.ref fI) (.ref x :: as) ((x, zaa.inst C d) :: (d, zaa.dict []) :: l) (fun r l' => r = .none ∧ Φ (.ref x) l') Ψ) : Fn B A (.ref C) as l Φ Ψ := .mk <| by
 intro s v vs G r rs
 cases r
 have k1 : ∀ b o, s.heap.get? b = some o → (s.heap.push emptyDict).get? b = some o := fun b o e => Heap.get?_push_of_some _ e
 have k2 : ∀ b o, (s.heap.push emptyDict).get? b = some o → ((s.heap.push emptyDict).push (instObj C s.heap.objs.size)).get? b = some o := fun b o e => Heap.get?_push_of_some _ e
 have lt : sysModules < s.heap.objs.size := modules_low G.nolimit
 have G1 := G.add (h' := s.heap.push emptyDict) (a := s.heap.objs.size) (c := .dict []) k1 (zas (Nat.le_refl _))
  ⟨[], ⟨Heap.DictOf.new _, beq_eq_false_iff_ne.mpr (Nat.ne_of_gt lt)⟩, .nil⟩ s.toks
 have hsz : (s.heap.push emptyDict).objs.size = s.heap.objs.size + 1 := Heap.size_push ..
 have G2 := G1.add (h' := (s.heap.push emptyDict).push (instObj C s.heap.objs.size)) (a := s.heap.objs.size + 1) (c := .inst C s.heap.objs.size) k2 (zas (by rwa [← hsz]; exact Nat.le_refl _))
  (by show _ = some _; rwa [← hsz]; exact Heap.get?_push_size _ rfl) s.toks
 have E : Ext s.heap ((s.heap.push emptyDict).push (instObj C s.heap.objs.size)) := Ext.of_keeps fun b o e => k2 b o (k1 b o e)
 have kin := G.kin
 obtain ⟨hh, g, d, t, os⟩ := s
 refine make_core (makes_of kin hm) (looks_findIn kin hi) (fun self => bind_fn kin self hf) (.inl rfl) ?_
 refine zmJ (zfp (A := A) (C := C) (vs := vs)) fun u1 u2 u3 u4 => ?_
 refine codeAny_mono ((h _ (hh.objs.size + 1) hh.objs.size u1 u2 u3 u4).go _ _ _ G2 .ref (.cons .ref (rs.mono E))) fun r s' z => ?_
 cases r with
 | error e => exact Exn.ext E z
 | ok f =>
  cases f with
  | ret v =>
   refine zjA z fun x b l' rv G3 yq78 hΦ => ?_
   clear z
   subst yq78
   cases rv
   exact ⟨rfl, E.trans x, _, l', .ref, G3, hΦ⟩
  | _ => exact z.elim
noncomputable def zjv (B : zan) (a : Addr) (xs : List AV) : Prop := ∃ vs n, IsL B.h₀ a vs n ∧ VRs B.h₀ vs.toList xs
theorem zix {a : Addr} {xs : List AV} {s : Shared} (G : zaB B l s) (h : zjv B a xs) : ∃ vs n, IsL s.heap a vs n ∧ VRs s.heap vs.toList xs := by
 refine zbE h fun vs n e r => ?_
 clear h
 exact (zk4 vs n (G.base _ _ e) (r.mono (Ext.of_keeps G.base)))
theorem zhI {a : Addr} {xs : List AV} (ha : zjv B a xs) (hf : xs.length < 2 ^ 60) (h : Φ (.int xs.length) l) : zaZ B A (.bi "len") [.ref a] l Φ Ψ := .mk <| fun s f vs G r rs => by
 obtain rfl := r.inv
 refine xEA rs.inv1 fun r19 yq79 r1 => ?_
 subst yq79
 obtain rfl := r1.inv
 refine zbE (zix G ha) fun ws n hl rs => ?_
 have e : ws.size = xs.length := by have := rs.len; simpa using this
 refine call_len_list hl.isList (by rwa [e]; walk_at "o") ?_
 rwa [e]; exact .tok .int G h
theorem zli {value slice : Expr} {a : Addr} {xs : List AV} {k : Int} {x : AV} (hm : zjv B a xs) (h0 : 0 ≤ k) (hk : k < 2 ^ 63) (hx : xs[k.toNat]? = some x) (h : Φ x l)
  (hs : ∀ o i, subscripted slice false o i = operate [o, i] (getItem o i)) : zjw B A value slice (.ref a) (.int k) l Φ Ψ := fun s v u G r1 r2 => by
 obtain rfl := r1.inv; (refine xE r2.inv fun _ yq80 => ?_; subst yq80)
 refine zbE (zix G hm) fun vs n hl rs => ?_
 refine xEA (rs.at hx) fun y hy ry => ?_
 exact tail_any hl.isList.typeIs slot_list_getitem.lookup (wpAny_getItem_list hl.isList h0 hk (by simpa using hy) (.here ry G h)) (hs _ _)
end
section
variable {B : zan} {A : Around} {env : Env} {Ψ : XQ} {L : Addr} {ls gs : List Str} {cl fl : List (Str × Addr)} {l : Led} {Θ : Fl → Led → Prop} {pos : Pos} {Φ : EQ}
theorem zob {e : Expr} (Fo : zaf env L ls gs cl fl) (h : Ev B A env l e (zpL Θ) Ψ) (hs : swapsWith e none pos.line env = pure false := by rfl) : Ex1 B A env l (.Expr e pos) Θ Ψ :=
 zn2 h (by unfold interactive; rwa [Fo.kind]; rfl) hs
inductive Pv (ls : List Str) (m : List (Str × Option AV)) : List Expr → List AV → Prop
 | nil : Pv ls m [] []
 | str {x : Str} {k : Nat} {p : Pos} {r : List Expr} {as : List AV} : Pv ls m r as → Pv ls m (.Constant (.str x) k p :: r) (.str x :: as)
 | int {x : Int} {k : Nat} {p : Pos} {r : List Expr} {as : List AV} : Pv ls m r as → Pv ls m (.Constant (.int x) k p :: r) (.int x :: as)
 | bool {x : Bool} {k : Nat} {p : Pos} {r : List Expr} {as : List AV} : Pv ls m r as → Pv ls m (.Constant (.bool x) k p :: r) (.bool x :: as)
 | none {k : Nat} {p : Pos} {r : List Expr} {as : List AV} : Pv ls m r as → Pv ls m (.Constant .none k p :: r) (.none :: as)
 | name {x : Str} {v : AV} {p : Pos} {r : List Expr} {as : List AV} : x ∈ ls → (x, some v) ∈ m → Pv ls m r as → Pv ls m (.Name x p :: r) (v :: as)
 | tup {es : List Expr} {k : Nat} {p : Pos} {r : List Expr} {as bs : List AV} : Pv ls m es bs → Nat.ble bs.length 1000 = true → Pv ls m r as → Pv ls m (.Tuple es k p :: r) (.tup bs :: as)
theorem zqy {m : List (Str × Option AV)} {es : List Expr} {as : List AV} {Φ : List AV → Led → Prop} (Fo : zaf env L ls gs cl fl) (hm : (L, zaa.ns m) ∈ l) (h : Pv ls m es as) (hΦ : Φ as l) : Es B A env pos l es Φ Ψ := by
 induction h generalizing pos Φ with
 | nil => exact zoH hΦ
 | str _ ih => exact zby (zoF (ih hΦ)) (by walk_at "r")
 | int _ ih => exact zby (zmz (ih hΦ)) (by walk_at "r")
 | bool _ ih => exact zby (zkP (ih hΦ)) (by walk_at "r")
 | none _ ih => exact zby (znt (ih hΦ)) (by walk_at "r")
 | name hx hv _ ih => exact zby (zmL Fo hx hm hv (ih hΦ)) (by walk_at "r")
 | tup _ hl _ ih1 ih2 => exact zby (zkM (ih1 ⟨by rwa [sizeLine_eq]; exact Nat.le_trans (Nat.le_of_ble_eq_true hl) (by decide), ih2 hΦ⟩)) (by walk_at "r")
theorem zry {m : List (Str × Option AV)} {es : List Expr} {k : Nat} {as : List AV} (Fo : zaf env L ls gs cl fl) (hm : (L, zaa.ns m) ∈ l) (h : Pv ls m es as) (hl : Nat.ble as.length 1000 = true) (hΦ : Φ (.tup as) l) : Ev B A env l (.Tuple es k pos) Φ Ψ :=
 zkM (zqy Fo hm h ⟨by rwa [sizeLine_eq]; exact Nat.le_trans (Nat.le_of_ble_eq_true hl) (by decide), hΦ⟩)
theorem zou {xs : List AV} (h : Nat.ble xs.length 1000 = true) : xs.length ≤ sizeLine := by rwa [sizeLine_eq]; exact Nat.le_trans (Nat.le_of_ble_eq_true h) (by decide)
theorem zrq {xs : List AV} {P : Prop} (h : Nat.ble xs.length 1000 = true) (p : P) : xs.length ≤ sizeLine ∧ P := ⟨zou h, p⟩
theorem dp0 {a b n : Nat} (h : a + b < n) : a < n := Nat.lt_of_le_of_lt (Nat.le_add_right a b) h
theorem dp1 {a b c n : Nat} (h : a + b < n) (k : Nat.ble (1 + c) b = true) : a + 1 + c < n := by
 have := Nat.le_of_ble_eq_true k
 walk_at "o"
theorem dp2 {a b n : Nat} (h : a + b < n) (k : Nat.ble 1 b = true) : a + 1 < n := dp1 (c := 0) h k
theorem dp3 {a b c n : Nat} (h : a + b < n) (k : Nat.ble (3 + c) b = true) : a + 3 + c < n := by
 have := Nat.le_of_ble_eq_true k
 walk_at "o"
theorem dp4 {a b n : Nat} (h : a + b < n) (k : Nat.ble 3 b = true) : a + 3 < n := dp3 (c := 0) h k
theorem dp5 {a b c n : Nat} (h : a + b < n) (k : Nat.ble c b = true) : a + c < n := Nat.lt_of_le_of_lt (Nat.add_le_add_left (Nat.le_of_ble_eq_true k) a) h
end
section
open PySem PySem.W PyProof.Rows PySem.Calls PySem.Builtin.ObjectAttr
noncomputable def zqX : Value → Bool
 | .ref _ => true
 | _ => false
theorem znj {v : Value} (e : zqX v = true) : ∃ c, v = .ref c := by
 cases v <;> first | exact ⟨_, rfl⟩ | exact Bool.noConfusion e
noncomputable def zcz : List Value → Bool
 | [] => false
 | v :: r => zqX v && zcz r || v :: r == [.type "Exception", .type "BaseException", .type "object"]
theorem zcg {P : List Value → Prop} (h0 : P [.type "Exception", .type "BaseException", .type "object"]) (h1 : ∀ c r, P r → P (.ref c :: r)) {l : List Value} (e : zcz l = true) : P l := by
 induction l with
 | nil => exact Bool.noConfusion e
 | cons v r ih =>
  refine (Bool.or_eq_true_iff.mp e).elim (fun h => ?_) fun h => eq_of_beq h ▸ h0
  refine (znj (Bool.and_eq_true_iff.mp h).1).elim fun c q => q ▸ h1 c r (ih (Bool.and_eq_true_iff.mp h).2)
theorem ziR (self : Value) {l : List Value} (e : zcz l = true) : refuseLoop self "__setattr__" l = pure () :=
 zcg (P := fun l => refuseLoop self "__setattr__" l = pure ()) (PySem.F.store_Exception.passes self) (fun c r ih => by rwa [refuseLoop_ref]; exact ih) e
theorem zlT {l : List Value} (e : zcz l = true) : l.contains (.type "object") = true :=
 zcg (P := fun l => l.contains (.type "object") = true) (by decide) (fun c r ih => by (rewrite [List.contains_cons, ih, Bool.or_true]; with_reducible rfl)) e
theorem zlU {l : List Value} (e : zcz l = true) : l.contains (.type "BaseException") = true :=
 zcg (P := fun l => l.contains (.type "BaseException") = true) (by decide) (fun c r ih => by (rewrite [List.contains_cons, ih, Bool.or_true]; with_reducible rfl)) e
theorem zmx {l : List Value} (e : zcz l = true) : l.isEmpty = false :=
 zcg (P := fun l => l.isEmpty = false) rfl (fun c r ih => rfl) e
noncomputable def zd3 (K : Frag) (C : Addr) : Bool := ((clsIn K C).any fun cd => zcz cd.mro && cd.hasDict && cd.mro.contains (.ref C)) && (findIn K (.ref C) "__setattr__" == some (some (.builtin "object.__setattr__"))) &&
 (findIn K (.ref C) "__getattribute__" == some (some (.builtin "BaseException.__getattribute__"))) && (findIn K (.ref C) "__getattr__" == some none)
theorem zbI {K : Frag} {C : Addr} (h : zd3 K C = true) : (∃ cd, clsIn K C = some cd ∧ zcz cd.mro = true ∧ cd.hasDict = true ∧ cd.mro.contains (.ref C) = true) ∧ findIn K (.ref C) "__setattr__" = some (some (.builtin "object.__setattr__")) ∧
  findIn K (.ref C) "__getattribute__" = some (some (.builtin "BaseException.__getattribute__")) ∧ findIn K (.ref C) "__getattr__" = some none := by
 unfold zd3 at h
 simp only [Bool.and_eq_true, beq_iff_eq] at h
 refine xA h fun yq84 h4 => ?_
 clear h
 obtain ⟨⟨h1, h2⟩, h3⟩ := yq84
 refine xEA (any_some h1) fun cd a b => ?_
 simp only [Bool.and_eq_true] at b
 exact (zjf (zfh cd a b.1.1 b.1.2 b.2) h2 h3 h4)
section
variable {prog : Program} {w : World} {A : Around} {K : Frag} {C x : Addr} {s : Shared} {R : Result → Shared → Prop}
theorem zkb {ox : Obj} {od : Option Obj} {name : Str} {tk : Tok} {v : Value} (X : K.In s.heap) (I : InstAt s.heap x ox C od) (hp : zd3 K C = true) (ht : findIn K (.ref C) name = some none)
  (h : ∀ b, wpAny (model prog w) A.in1 (storeInOwnDict (.ref x) (.ref C) (.str name tk) name v b)
   (fun fin s' => match fin with | .done f => R (.ok f) s' | .again c' => c'.quiet = true ∧ codeAny (model prog w) A c' R s') (fun e s' => R (.error e) s') s) :
  codeAny (model prog w) A (.call (.builtin "object.__setattr__") ⟨[.ref x, .str name tk, v], []⟩) R s := by
 have SF := PySem.F.store_object
 refine xA (zbI hp) fun yq85 _ => ?_
 obtain ⟨cd, hc, ho, _⟩ := yq85
 have ne := zmx ho
 have sub : Looks (model prog w) s.heap (isInstance (.ref x) (.type "object")) true := I.type.andThen (looks_mroIn X (by unfold mroIn; rwa [hc, Option.bind_some, if_neg (by rwa [ne]; decide), zlT ho]))
 refine codeAny_call_builtin SF.slot.plain SF.entry (@check_slot (model prog w) _ _ s "object.__setattr__" "object" "__setattr__" (.ref x) [.str name tk, v] [] _ SF.kind SF.split sub (SF.args (.ref x) (.str name tk) v) ?_)
 have hm : Looks (model prog w) s.heap (mroOf (.ref C)) cd.mro := (looks_clsIn X hc).andThen .now
 have L3 : Looks (model prog w) s.heap (storeTaker? none) none := .now
 rwa [osa_eq, refuse_eq]
 refine wpAny_bind (wpAny_bind (I.type.here (wpAny_bind (hm.here ?_))))
 rwa [ziR _ ho]
 refine wpAny_pure (wpAny_bind (I.type.here (wpAny_bind ((looks_findIn X ht).here (wpAny_bind (L3.here ?_))))))
 exact h _
end
section
variable {B : zan} {A : Around} {env : Env} {Ψ : XQ} {L : Addr} {ls gs : List Str} {cl fl : List (Str × Addr)} {l : Led} {Θ : Fl → Led → Prop} {pos : Pos} {Φ : EQ}
noncomputable def zd2 (C : Addr) (d : Option Addr) (v : Value) : Obj := { cls := .ref C, dict := d, data := .fields #[v, .none, .none, .none, .bool false, .none] }
theorem zft {name : Str} {tk : Tok} {d : Addr} {es es' : List (Str × AV)} {v : AV} {vv : Value} {g : zaa → Led} {Φ : Unit → Led → Prop} {s : Shared} {h0 : Heap} (G : zaB B l s) (rv : VR s.heap vv v) (hu : Up l d (.dict es) g) (hx : Ext h0 s.heap)
  (hst : ∀ {h : Heap} {kvs : List (Str × Value)} {vv : Value}, KvR h kvs es → (es.map (·.1)).Nodup → VR h vv v → KvR h (stored kvs name vv) es') (hz : es.length ≤ 1000) (h : Φ () (g (.dict es'))) :
  wpAny (model B.prog B.w) A (storeInDict d (.str name tk) name vv) (fun fin s' => fin = .done (.ret .none) ∧ Res B UR h0 Φ () s') (fun _ _ => False) s := by
 refine xEA (G.cells _ hu.mem) fun kvs yq86 rs => ?_
 obtain ⟨D, hsys⟩ := yq86
 have D0 := D
 refine zbR D0 fun o1 es1 ep ho hcd hdat hk hpr hn => ?_
 clear D0
 have hlen : es1.size = kvs.length := by have := hpr.length; simpa using this
 unfold storeInDict newKeyGuard nsSet
 refine wpAny_bind (wpAny_pure (wpAny_bind ?_))
 refine wpAny_bind (wpAny_bind (wpAny_askSetting (wpAny_pure (wpAny_bind (wpAny_mkText (wpAny_bind (wpAny_loadPart ho ?_)))))))
 rwa [hdat]
 dsimp only
 have c : (!es1.any (·.key.isStr name) && es1.any (·.refKey)) = false := by
  have : es1.any (·.refKey) = false := by
   rwa [Array.any_eq_false']
   intro en hm
   refine xEE (zcw hk en hm) fun n t q => ?_
   simp [DictEntry.refKey, q]
  rwa [this, Bool.and_false]
 rwa [aRefKeyMayBeTheName_at, c]
 refine wpAny_updatePart ho ?_
 have D' := zdX (name := name) (t := s.toks) (v := vv) D
 refine zbR (id D') fun o2 es2 ep2 ho2 _ hd2 _ hp2 _ => ?_
 have hlen2 : es2.size = (stored kvs name vv).length := by have := hp2.length; simpa using this
 have hsz : es2.size ≤ sizeLine + 1 := by
  have := stored_length_le kvs name vv
  have := rs.len
  rwa [hlen2, sizeLine_eq]; walk_at "o"
 refine wpAny_bind (wpAny_lookBehind ho2 (by rwa [hd2]; exact pastItsLine_dict hsz) ?_)
 have T := G.turn (c' := .dict es') hu (h' := s.heap.update d (Obj.putName name (PyData.keyHash B.w.params name) (.str name s.toks) vv)) (fun b hb o e => (Heap.get?_update_other _ _ (Ne.symm hb)).trans e)
  (fun c E => ⟨_, ⟨D', by (refine xEA c fun _ yq87 _ => ?_; clear c; obtain ⟨_, q⟩ := yq87); exact q⟩, (hst (rs.mono E) (zaS D rs) (rv.mono E))⟩) (s.toks + 1)
 exact wpAny_pure ⟨rfl, hx.trans T.2, (), _, trivial, T.1, h⟩
theorem zlm {name : Str} {a C d : Addr} {v0 : Value} {es es' : List (Str × AV)} {v : AV} {g : zaa → Led} {Φ : Unit → Led → Prop} (hi : (a, zaa.raw (zd2 C (some d) v0)) ∈ l) (hu : Up l d (.dict es) g) (hp : zd3 B.K C = true) (ht : findIn B.K (.ref C) name = some none)
  (hst : ∀ {h : Heap} {kvs : List (Str × Value)} {vv : Value}, KvR h kvs es → (es.map (·.1)).Nodup → VR h vv v → KvR h (stored kvs name vv) es') (hz : es.length ≤ 1000) (h : Φ () (g (.dict es'))) : znW B A name (.ref a) v l Φ Ψ := fun s ov vv G r rv => by
 obtain rfl := r.inv
 refine xAA (zbI hp) fun yq88 p5 _ => ?_
 obtain ⟨cd, hc, ho, hdi, _⟩ := yq88
 have ha := za0 G hi
 refine xEA (G.cells _ hu.mem) fun kvs yq89 rs => ?_
 obtain ⟨D, hsys⟩ := yq89
 refine xEA (zc3 D) fun od he _ => ?_
 have I : InstAt s.heap a (zd2 C (some d) v0) C (some od) := ⟨ha, rfl, rfl, he⟩
 refine set_plain G.kin I p5 ?_
 refine zkb (s := { s with toks := s.toks + 1 }) G.kin I hp ht fun b => ?_
 unfold storeInOwnDict
 refine wpAny_bind (wpAny_pure (wpAny_bind (wpAny_bind (wpAny_loadPart ha (wpAny_bind (looks_clsIn (G.toks (s.toks + 1)).kin hc _ _ _ _ (fun _ _ e => e) ?_))))))
 rwa [hdi]
 refine wpAny_pure (a := some d) ?_
 refine wpAny_mono (zft (Φ := Φ) (h0 := s.heap) (G.toks (s.toks + 1)) rv hu (Ext.refl _) hst hz h) (fun fin s' q => ?_) fun _ _ q => q.elim
 refine xA q ?_; clear q; intro yq90 q
 subst yq90
 exact q
theorem zln {name : Str} {a C : Addr} {v0 : Value} {v : AV} {g : zaa → Led} {Φ : Unit → Led → Prop} (hu : Up l a (.raw (zd2 C none v0)) g) (hp : zd3 B.K C = true) (ht : findIn B.K (.ref C) name = some none)
  (h : ∀ d, Φ () ((d, .dict [(name, v)]) :: g (.raw (zd2 C (some d) v0)))) : znW B A name (.ref a) v l Φ Ψ := fun s ov vv G r rv => by
 obtain rfl := r.inv
 refine xAA (zbI hp) fun yq91 p5 _ => ?_
 obtain ⟨cd, hc, ho, hdi, _⟩ := yq91
 have ha := za0 G hu.mem
 have I : InstAt s.heap a (zd2 C none v0) C none := ⟨ha, rfl, rfl, trivial⟩
 refine set_plain G.kin I p5 ?_
 refine zkb (s := { s with toks := s.toks + 1 }) G.kin I hp ht fun b => ?_
 unfold storeInOwnDict
 refine wpAny_bind (wpAny_pure (wpAny_bind (wpAny_bind (wpAny_loadPart ha (wpAny_bind (looks_clsIn (G.toks (s.toks + 1)).kin hc _ _ _ _ (fun _ _ e => e) ?_))))))
 rwa [hdi]
 have lt : sysModules < s.heap.objs.size := modules_low G.nolimit
 have k1 : ∀ b o, s.heap.get? b = some o → (s.heap.push { cls := .type "dict", data := .dict #[] }).get? b = some o := fun b o e => Heap.get?_push_of_some _ e
 have G1 := (G.toks (s.toks + 1)).add (h' := s.heap.push { cls := .type "dict", data := .dict #[] }) (a := s.heap.objs.size) (c := .dict []) k1 (zas (Nat.le_refl _))
  ⟨[], ⟨Heap.DictOf.new _, beq_eq_false_iff_ne.mpr (Nat.ne_of_gt lt)⟩, .nil⟩ (s.toks + 1)
 have ha1 := k1 _ _ ha
 have hne : a ≠ s.heap.objs.size := Nat.ne_of_lt (Heap.lt_size ha)
 have T := G1.turn (c' := .raw (zd2 C (some s.heap.objs.size) v0)) (.tail hu) (h' := (s.heap.push { cls := .type "dict", data := .dict #[] }).update a fun o => { o with dict := some s.heap.objs.size })
  (fun b hb o e => (Heap.get?_update_other _ _ (Ne.symm hb)).trans e) (fun c E => ⟨c.1, Heap.get?_update_self _ ha1 rfl⟩) (s.toks + 1)
 refine wpAny_bind (wpAny_alloc' ?_)
 refine wpAny_bind (wpAny_update' ha1 ?_)
 refine wpAny_pure ?_
 refine wpAny_mono (zft (Φ := Φ) (h0 := s.heap) (l := (s.heap.objs.size, .dict []) :: g (.raw (zd2 C (some s.heap.objs.size) v0))) (es := []) (es' := [(name, v)]) T.1 (rv.mono ((Ext.of_keeps k1).trans T.2)) .head ((Ext.of_keeps k1).trans T.2) (fun rk nd r => zae (l := []) rk (by simp) r) (by simp) (h _)) (fun fin s' q => ?_) fun _ _ q => q.elim
 refine xA q ?_; clear q; intro yq92 q
 subst yq92
 exact q
theorem zmw : PySem.Slot "Exception" "__getattribute__" "BaseException.__getattribute__" := .of (owner := "BaseException") (n := "__getattribute__") (by rwa [typeLookup_type, builtinLookup_eq_fast]; kernel_rfl) (by decide +kernel) (by decide +kernel) (by decide +kernel)
  (by first | exact .inl (by decide +kernel) | exact .inr (by decide +kernel)) (by rwa [isSubtype_type]; kernel_rfl)
theorem zlS {s : Shared} {a C d : Addr} {es : List (Str × AV)} (G : zaB B l s) (hi : (a, zaa.exc C d) ∈ l) (hd : (d, zaa.dict es) ∈ l) :
  ∃ kvs ox o, InstAt s.heap a ox C (some o) ∧ s.heap.DictOf (strKind B.prog B.w) d kvs ∧ KvR s.heap kvs es ∧ ∀ x, lookIn x o = some (valueAt kvs x) := by
 refine xEA (G.cells _ hd) fun kvs yq93 r => ?_
 obtain ⟨D, hsys⟩ := yq93
 refine xEA (zc3 D) fun o e hl => ?_
 refine zct (G.cells _ hi) fun ox vs h1 h2 h3 h4 _ => ?_
 refine (zhz kvs ox o ⟨h1, h2, by unfold notCls; rwa [h4], by rwa [h3]; exact e⟩ D r hl)
theorem zkI {name : Str} {a C d : Addr} {es : List (Str × AV)} {x : AV} (hi : (a, zaa.exc C d) ∈ l) (hd : (d, zaa.dict es) ∈ l) (hx : (name, x) ∈ es) (h : Φ x l) (hp : zd3 B.K C = true)
  (hn : findIn B.K (.ref C) name = some none) (hh : zbN x = true := by rfl) : zp5 B A name (.ref a) l Φ Ψ := fun s v G r => by
 obtain rfl := r.inv
 refine zcs (zlS G hi hd) fun kvs ox o I D rs hl => ?_
 refine xEA (rs.at (zaS D rs) hx) fun y hy ry => ?_
 refine zmJ (zbI hp) fun yq94 _ p3 p4 => ?_
 obtain ⟨cd, hc, ho, hdi, _⟩ := yq94
 have hf : findObj B.K C (some o) name = some (.value y) := by
  unfold findObj
  rwa [hc, Option.bind_some, hn, Option.bind_some]
  simp only [Option.bind_some]
  unfold PySem.W.ownOf
  rwa [hdi, if_pos rfl]
  dsimp only
  rwa [hl, hy]; rfl
 have X := G.kin
 have L0 := I.type (M := model B.prog B.w)
 have L1 := looks_findIn (M := model B.prog B.w) X p3
 have L2 := looks_findIn (M := model B.prog B.w) X p4
 have L3 := looks_find (M := model B.prog B.w) X I hf
 have LS : Looks (model B.prog B.w) s.heap (isInstance (.ref a) (.type "BaseException")) true := I.type.andThen (looks_mroIn X (by unfold mroIn; rwa [hc, Option.bind_some, if_neg (by rwa [zmx ho]; decide), zlU ho]))
 obtain ⟨hh', g, dd, t, os⟩ := s
 unfold getAttr getAttrBy
 refine wpAny_bind (wpAny_mkText (wpAny_holding (wpAny_bind (L0.at (wpAny_bind (L1.at ?_))))))
 show wpAny _ _ (getAttrByItsOwn _ _ _ _ _ _) _ _ _
 unfold getAttrByItsOwn
 refine wpAny_bind (L2.at ?_)
 refine wpAny_bind (wpAny_attempt ?_)
 show wpAny _ _ (boundAndCalled _ _ _) _ _ _
 unfold boundAndCalled
 rwa [zmw.bind]
 refine wpAny_bind (wpAny_pure (wpAny_call ?_))
 refine codeAny_call_builtin zmw.plain F.entry_bexc_ga (@check_slot (model B.prog B.w) _ _ _ "BaseException.__getattribute__" "BaseException" "__getattribute__" (.ref a) [_] [] _ (by decide +kernel) (by decide +kernel) LS (F.args_bexc_ga _ _) ?_)
 refine wpAny_bind (wpAny_pure ?_)
 refine wpAny_bind (wpAny_pure ?_)
 refine wpAny_bind (L0.at (wpAny_bind (L3.at ?_)))
 refine wpAny_pure ?_
 show wpAny _ _ (handedOut y) _ _ _
 rwa [handedOut_of (zeU ry hh)]
 exact wpAny_pure (.tok ry G h)
end
end
structure ziC (bm : List Value) : Prop where
 hasE : bm.contains (.type "Exception") = true
 hasB : bm.contains (.type "BaseException") = true
 noA : bm.contains (.type "AttributeError") = false
 noN : bm.contains (.type "NameError") = false
section
variable {M : Model} {A : Around} {E : Value → Shared → Prop} {h : Heap} {g : Array GenState} {d : Drawn} {t : Nat} {os : OsState}
variable {nm q : Str} {C N : Addr} {bs bm : List Value} {hdct : Bool} {sn : List Str} {sub : List Value} {ab : Bool} {col : Option Bool} {dd : Option Addr} {k0 k1 k2 k3 k5 : Option Value}
theorem zhs (T : ziC bm) {rest : List Value} {Q : Unit → Shared → Prop} (hC : h.get? C = some (excClassObj nm q C N bs bm hdct sn sub ab col dd k0 k1 k2 k3 k5 "Exception.__new__"))
  (hq : Q () ⟨h, g, d, t, os⟩) : wpAny M A (checkBuiltinCall "Exception.__new__" ⟨.ref C :: rest, []⟩) Q E ⟨h, g, d, t, os⟩ :=
 wpAny_check_new_subU F.excBase_Exception T.hasE .base hC hq
end
section
variable {prog : Program} {w : World} {A : Around} {R : Result → Shared → Prop} {E : Value → Shared → Prop} {h : Heap} {g : Array GenState} {d : Drawn} {t : Nat} {os : OsState}
variable {nm q : Str} {C N : Addr} {bs bm : List Value} {hdct : Bool} {sn : List Str} {sub : List Value} {ab : Bool} {col : Option Bool} {dd : Option Addr} {k0 k1 k2 k3 k5 : Option Value}
theorem zlA (T : ziC bm) {rest : List Value} (hC : h.get? C = some (excClassObj nm q C N bs bm hdct sn sub ab col dd k0 k1 k2 k3 k5 "Exception.__new__"))
  (hq : R (.ok (.ret (.ref (h.objs.size + 1)))) ⟨(h.push { cls := .type "tuple", data := .seq rest.toArray }).push (zd2 C none (.ref h.objs.size)), g, d, t, os⟩) (hrest : rest.length ≤ sizeLine) :
  codeAny (model prog w) A (.builtin "Exception.__new__" ⟨.ref C :: rest, []⟩) R ⟨h, g, d, t, os⟩ := by
 have Fn := F.excBase_Exception
 have hends := Fn.ends
 have hcB : (Value.ref C :: bm).contains (.type "Exception") = true := by rwa [List.contains_cons, T.hasE, Bool.or_true]
 have hcA : (Value.ref C :: bm).contains (.type "AttributeError") = false := by rwa [List.contains_cons, T.noA]; rfl
 have hcN : (Value.ref C :: bm).contains (.type "NameError") = false := by rwa [List.contains_cons, T.noN]; rfl
 refine codeAny_builtinAt Fn.entry ?_
 unfold Builtin.«BaseException.__new__»
 refine PySem.wpAt_bind ?_
 show PySem.wpAt _ _ _ (stack >>= _) _ _ _
 refine PySem.wpAt_bind (PySem.wpAt_stack fun p below => PySem.wpAt_of_wpAny ?_)
 wp_walk
 refine PySem.wpAt_of_wpAny ?_
 rwa [Fn.owner]
 repeat (first | with_reducible refine wpAny_madeHere_exc Fn.canon hC ?_ | with_reducible refine wpAny_loadPart_at hC ?_ | (with_reducible refine wpAny_isSubtype_exc hC ?_; first | rw [hcB] | rw [hcA] | rw [hcN]) | wp_step)
 show R _ _
 rwa [Heap.size_push]
 exact hq
theorem zlV (T : ziC bm) {rest : List Value} {fI : Addr} {Q : Value → Shared → Prop}
  (hC : h.get? C = some (excClassObj nm q C N bs bm hdct sn sub ab col dd k0 k1 k2 k3 k5 "Exception.__new__"))
  (hi : Looks (model prog w) h (typeLookup (.ref C) "__init__") (some (.ref fI))) (hb : ∀ self, Looks (model prog w) h (bindSpecial (.ref fI) self) (.ref fI, [self]))
  (hrest : rest.length ≤ sizeLine)
  (hq : wpAny (model prog w) (A.under (.builtin "type.__call__" ⟨.ref C :: rest, []⟩)) (call (.ref fI) (.ref (h.objs.size + 1) :: rest)) (fun r s' => r = .none ∧ Q (.ref (h.objs.size + 1)) s') E
   ⟨(h.push { cls := .type "tuple", data := .seq rest.toArray }).push (zd2 C none (.ref h.objs.size)), g, d, t, os⟩) :
  wpAny (model prog w) A (call (.ref C) rest) Q E ⟨h, g, d, t, os⟩ := by
 have Fn := F.excBase_Exception
 have f1 := tc_lookup
 have f2 := tc_bind (.ref C)
 have hT : (⟨h, g, d, t, os⟩ : Shared).TypeIs (.ref C) "type" := ⟨_, hC, rfl⟩
 refine wpAny_call (codeAny_of_tree ?_)
 show wpAny _ _ (callAny (.ref C) _) _ _ _
 repeat (any_goals (first | assumption | with_reducible refine wpAny_loadPart_at hC ?_ | wp_step))
 refine ⟨rfl, ?_⟩
 refine codeAny_call_builtin_at (Code.quiet_builtin _ (by decide +kernel)) entry_typeCall (wpAny_check_type_call_sub hC ?_)
 repeat (first | with_reducible refine wpAny_loadPart_at hC ?_ | with_reducible refine wpAny_madeBy_exc hC ?_ | wp_step)
 refine codeAny_call_builtin_code (Code.quiet_builtin _ Fn.quiet) (zhs T hC ?_)
 refine zlA T hC ?_ hrest
 show wpAny _ _ _ _ _ _
 have k : ∀ b o, h.get? b = some o → ((h.push { cls := .type "tuple", data := .seq rest.toArray }).push (zd2 C none (.ref h.objs.size))).get? b = some o := fun b o e => Heap.get?_push_of_some _ (Heap.get?_push_of_some _ e)
 have hC₁ := k _ _ hC
 have hget : ((h.push { cls := .type "tuple", data := .seq rest.toArray }).push (zd2 C none (.ref h.objs.size))).get? (h.objs.size + 1) = some (zd2 C none (.ref h.objs.size)) := by
  rwa [← Heap.size_push h { cls := .type "tuple", data := .seq rest.toArray }]; exact Heap.get?_push_size _ rfl
 have hcC : (Value.ref C :: bm).contains (.ref C) = true := by simp
 have hcls : (zd2 C none (.ref h.objs.size)).cls = .ref C := rfl
 unfold isInstance
 repeat (first | (with_reducible refine wpAny_loadPart_at hget ?_; rwa [hcls]) | (with_reducible refine wpAny_isSubtype_exc hC₁ ?_; rwa [hcC]) | wp_step)
 show wpAny _ _ (isSubtype (.ref C) (.ref C)) _ _ _
 refine wpAny_isSubtype_exc hC₁ ?_
 rwa [hcC]
 repeat wp_step
 refine (hi.keeps k).here (wpAny_holding (wpAny_bind (((hb (.ref (h.objs.size + 1))).keeps k).here ?_)))
 refine wpAny_bind (wpAny_mono hq (fun r s' hr => ?_) fun _ _ x => x)
 refine xA hr fun yq95 hQ => ?_
 clear hr
 subst yq95
 wp_walk
 exact hQ
end
noncomputable def zrx (C : Addr) (o : Obj) : Data → Bool
 | .cls cd => cd.mro.head? == some (.ref C) && !cd.hasDel && decide (o.slots.toList.length = 6) && o.slots.toList[4]? == some (some (.builtin "Exception.__new__")) && cd.mro.tail.contains (.type "Exception") && cd.mro.tail.contains (.type "BaseException") && !cd.mro.tail.contains (.type "AttributeError") && !cd.mro.tail.contains (.type "NameError")
 | _ => false
noncomputable def zgP (K : Frag) (C : Addr) : Bool := (K.lookup C).any fun o => o.cls == .type "type" && zrx C o o.data
inductive zju (h : Heap) (C : Addr) : Prop
 | mk (nm qn : Str) (N : Addr) (bs bm : List Value) (hdct : Bool) (sn : List Str) (sub : List Value) (ab : Bool) (col : Option Bool) (dd : Option Addr) (k0 k1 k2 k3 k5 : Option Value) (hC : h.get? C = some (excClassObj nm qn C N bs bm hdct sn sub ab col dd k0 k1 k2 k3 k5 "Exception.__new__")) (T : ziC bm) : zju h C
theorem zds {K : Frag} {h : Heap} {C : Addr} (X : K.In h) (q : zgP K C = true) : zju h C := by
 unfold zgP at q
 cases ho : K.lookup C with
 | none => rw [ho] at q; cases q
 | some o =>
  rw [ho, Option.any_some, Bool.and_eq_true, beq_iff_eq] at q
  obtain ⟨cl, dd, dt, sl⟩ := o
  refine xA q ?_; clear q; intro yq101 q
  subst yq101
  cases dt with
  | cls cd =>
   change (_ && _ && _ && _ && _ && _ && _ && _) = true at q
   simp only [Bool.and_eq_true, Bool.not_eq_true', beq_iff_eq, decide_eq_true_eq] at q
   refine xA q fun yq102 e4 => ?_
   clear q
   obtain ⟨⟨⟨⟨⟨⟨hm, hdel⟩, hl⟩, h4⟩, e1⟩, e2⟩, e3⟩ := yq102
   obtain ⟨nm, bs, mro, ns, qn, hd, sn, sub, ab, col, del⟩ := cd
   obtain ⟨sl⟩ := sl
   dsimp only at hm hdel hl h4 e1 e2 e3 e4
   subst hdel
   refine zmH (zqW hl) fun k0 k1 k2 k3 k4 k5 yq103 => ?_
   subst yq103
   cases h4
   cases mro with
   | nil => cases hm
   | cons x bm =>
    cases hm
    exact ⟨nm, qn, ns, bs, bm, hd, sn, sub, ab, col, dd, k0, k1, k2, k3, k5, (X _ _ ho), ⟨e1, e2, e3, e4⟩⟩
  | _ => cases q
section
variable {B : zan} {A : Around} {env : Env} {Ψ : XQ} {L : Addr} {ls gs : List Str} {cl fl : List (Str × Addr)} {l : Led} {Θ : Fl → Led → Prop} {pos : Pos} {Φ : EQ}
theorem zjM : typeOf (.type "Exception") = pure (.type "type") := by kernel_rfl
theorem zhB {pl : Sem Bool} {Φ : AV × List AV → Led → Prop} (e : ∀ K, findCls K (.type "Exception") (.type "type") "__init__" = some (.val (.builtin "Exception.__init__"))) (h : Φ (.bi "Exception.__init__", []) l) : zkZ B A pl "__init__" (.ty "Exception") l Φ Ψ := fun s v G r => by
 obtain rfl := r.inv
 have X := G.kin
 have ht := zjM
 have hstub : opaqueClassAbove (.type "Exception") = pure none := by unfold opaqueClassAbove; dsimp only; rwa [show Manifest.isStub "Exception" = false by decide +kernel]; rfl
 have L0 : Looks (model B.prog B.w) s.heap (typeOf (.type "Exception")) (.type "type") := Looks.of_pure ht
 have hg : findIn B.K (.type "type") "__getattribute__" = some (some (.builtin "type.__getattribute__")) := type_tga
 unfold getMethod specialOf
 refine wpAny_bind (wpAny_bind (L0.here ((looks_findIn X hg).here ?_)))
 dsimp only
 rwa [if_pos canon_tga]
 refine wpAny_bind (wpAny_mono (Q := fun v s' => Res B (fun h (p : Value × List Value) (q : AV × List AV) => VR h p.1 q.1 ∧ VRs h p.2 q.2) s.heap Φ (v, []) s') (E := Exn B s.heap Ψ) ?_ (fun _ _ z => wpAny_pure z) fun _ _ z => z)
 have LO : Looks (model B.prog B.w) s.heap (opaqueClassAbove (.type "Exception")) none := Looks.of_pure hstub
 refine cls_open X LO L0 hg (looks_hook X (r := none) (by rfl)) (by show subIn B.K _ _ = _; rfl) (e _)
  (wpAny_pure (by show wpAny _ _ (handedOut _) _ _ _; rwa [handedOut_of (by decide +kernel)]; exact wpAny_pure ⟨Ext.refl _, (.bi "Exception.__init__", []), l, ⟨.bi, .nil⟩, G.toks _, h⟩))
theorem zhK {a C t0 : Addr} {m : AV} {g : zaa → Led} (hp : zd3 B.K C = true) (hp2 : zgP B.K C = true) (hu : Up l a (.raw (zd2 C none (.ref t0))) g) (h : ∀ t1, Φ .none (g (.raw (zd2 C none (.ref t1))))) : zaZ B A (.bi "Exception.__init__") [.ref a, m] l Φ Ψ := .mk <| fun s f vs G r rs => by
 cases r
 revert vs; refine VRs.consA fun _ _ r1 rs => ?_
 ·cases rs with
  | @cons mv _ _ _ r2 rs =>
   cases r1; cases rs
   refine xA (zbI hp) fun yq104 _ => ?_
   obtain ⟨cd, hc, ho, hdi, _⟩ := yq104
   have ha := za0 G hu.mem
   have F := PySem.F.excCall_Exception
   refine zju.rec (fun nm qn N bs bm hdct sn sub ab col dd k0 k1 k2 k3 k5 hC T => ?_) (zds G.kin hp2)
   have hcB : (Value.ref C :: bm).contains (.type "Exception") = true := by rwa [List.contains_cons, T.hasE, Bool.or_true]
   have hshort := F.noStar
   have hcls : (zd2 C none (.ref t0)).cls = .ref C := rfl
   refine wpAny_call (codeAny_call_builtin F.init.plain F.initEntry ?_)
   obtain ⟨hh, gg, d, t, os⟩ := s
   dsimp only at ha hC
   simp only [checkBuiltinCall, F.initKind, F.initSplit, F.initRow]
   repeat (first | (with_reducible refine wpAny_loadPart_at ha ?_; rwa [hcls]) | with_reducible refine wpAny_loadPart_at hC ?_ | (with_reducible refine wpAny_isSubtype_exc hC ?_; rwa [hcB]) | wp_step)
   show Res B VR hh Φ .none _
   have k1 : ∀ b o, hh.get? b = some o → (hh.push { cls := .type "tuple", data := .seq #[mv] }).get? b = some o := fun b o e => Heap.get?_push_of_some _ e
   have G1 := G.push { cls := .type "tuple", data := .seq #[mv] }
   have ha1 := k1 _ _ ha
   have T1 := G1.turn (c' := .raw (zd2 C none (.ref hh.objs.size))) hu (h' := (hh.push { cls := .type "tuple", data := .seq #[mv] }).update a (Obj.mapFields fun x => x.setIfInBounds 0 (Value.ref hh.objs.size)))
    (fun b hb o e => (Heap.get?_update_other _ _ (Ne.symm hb)).trans e) (fun c E => ⟨c.1, Heap.get?_update_self _ ha1 rfl⟩) t
   exact ⟨(Ext.of_keeps k1).trans T1.2, _, _, .none, T1.1, h _⟩
theorem zjK {C : Addr} {vs : List Value} : (A.under (.builtin "type.__call__" ⟨.ref C :: vs, []⟩)).handled = A.handled ∧ (A.under (.builtin "type.__call__" ⟨.ref C :: vs, []⟩)).depth ≤ A.depth + 1 ∧
  (A.under (.builtin "type.__call__" ⟨.ref C :: vs, []⟩)).frames = A.frames ∧ (A.under (.builtin "type.__call__" ⟨.ref C :: vs, []⟩)).units ≤ A.units + 4 := zfp
theorem zmC {C fI : Addr} {as : List AV} (hp : zgP B.K C = true) (hi : findIn B.K (.ref C) "__init__" = some (some (.ref fI))) (hf : typeIn B.K (.ref fI) = some (.type "function")) (hz : as.length ≤ 1000)
  (h : ∀ (A' : Around) x t, A'.handled = A.handled → A'.depth ≤ A.depth + 1 → A'.frames = A.frames → A'.units ≤ A.units + 4 → zaZ B A' (.ref fI) (.ref x :: as) ((x, zaa.raw (zd2 C none (.ref t))) :: l) (fun r l' => r = .none ∧ Φ (.ref x) l') Ψ) : zaZ B A (.ref C) as l Φ Ψ := .mk <| fun s v vs G r rs => by
 cases r
 refine zju.rec (fun nm qn N bs bm hdct sn sub ab col dd k0 k1 k2 k3 k5 hC T => ?_) (zds G.kin hp)
 have kin := G.kin
 have e1 : ∀ b o, s.heap.get? b = some o → (s.heap.push { cls := .type "tuple", data := .seq vs.toArray }).get? b = some o := fun b o e => Heap.get?_push_of_some _ e
 have G1 := G.push { cls := .type "tuple", data := .seq vs.toArray }
 have hsz : (s.heap.push { cls := .type "tuple", data := .seq vs.toArray }).objs.size = s.heap.objs.size + 1 := Heap.size_push ..
 have G2 := G1.newRaw (zd2 C none (.ref s.heap.objs.size)) rfl (by intro q; cases q) (by intro q; cases q)
 rw [show ({ s with heap := s.heap.push { cls := .type "tuple", data := .seq vs.toArray } } : Shared).heap.objs.size = s.heap.objs.size + 1 from hsz] at G2
 have E : Ext s.heap ((s.heap.push { cls := .type "tuple", data := .seq vs.toArray }).push (zd2 C none (.ref s.heap.objs.size))) := Ext.of_keeps fun b o e => Heap.get?_push_of_some _ (e1 b o e)
 have hzl : vs.length ≤ sizeLine := by rwa [rs.len, sizeLine_eq]; walk_at "o"
 refine zmJ (zjK (A := A) (C := C) (vs := vs)) fun u1 u2 u3 u4 => ?_
 obtain ⟨hh, g, d, t, os⟩ := s
 refine zlV T hC (looks_findIn kin hi) (fun self => bind_fn kin self hf) hzl ?_
 refine wpAny_mono ((h _ (hh.objs.size + 1) hh.objs.size u1 u2 u3 u4).go _ _ _ G2 .ref (.cons .ref (rs.mono E))) (fun r s' z => ?_) fun e s' z => z.ext E
 refine zjA z fun x b l' rv G3 yq96 hΦ => ?_
 clear z
 subst yq96
 cases rv
 exact ⟨rfl, E.trans x, _, l', .ref, G3, hΦ⟩
theorem znK {h h' : Heap} (x : Ext h h') {f : Flow} {g : Fl} (r : FR h f g) : FR h' f g := by
 cases r with
 | next => exact .next
 | brk => exact .brk
 | cont => exact .cont
 | ret r => exact .ret (r.mono x)
noncomputable def zpK (B : zan) (Ψ : XQ) (a : AV) (l1 : Led) : Prop := ∃ x C d v0 f, a = .ref x ∧ zgP B.K C = true ∧ Up l1 x (.raw (zd2 C (some d) v0)) f ∧ Ψ ⟨x, C, d⟩ (f (.exc C d))
theorem zjy {e : Expr} (hh : A.handled = none) (h : Ev B A env l e (zpK B Ψ) Ψ) : Ex1 B A env l (.Raise (some e) none pos) Θ Ψ := .mk <| fun s G => by
 show wpAny _ _ (exec (.Raise (some e) none pos) env) _ _ s
 rwa [arm_exec_Raise]
 show wpAny _ _ (do
  standAt pos
  raiseStmt env (some (do let v ← eval e env; standAt pos; pure v)) none) _ _ s
 refine wpAny_bind (wpAny_standAt ?_)
 unfold raiseStmt
 refine wpAny_bind (wpAny_bind (zaE (h.go s G) (Ext.refl _) (fun v a l1 s₁ x1 r1 G1 h1 => wpAny_bind (wpAny_standAt (wpAny_pure ?_))) fun _ _ e => e))
 refine zgp h1 ?_; clear h1; intro x C d v0 f yq97 hp hu h1
 subst yq97
 cases r1
 refine zju.rec (fun nm qn N bs bm hdct sn sub ab col dd k0 k1 k2 k3 k5 hC T => ?_) (zds G1.kin hp)
 have hcB : (Value.ref C :: bm).contains (.type "BaseException") = true := by rwa [List.contains_cons, T.hasB, Bool.or_true]
 have he := za0 G1 hu.mem
 have hcls : (zd2 C (some d) v0).cls = .ref C := rfl
 have T2 := G1.turn (c' := .exc C d) hu (h' := s₁.heap) (fun _ _ _ e => e) (fun c E => ⟨_, _, c.2, rfl, rfl, rfl, by show 5 < 6; decide⟩) s₁.toks
 have fin : Exn B s.heap Ψ (.ref x) s₁ := ⟨x1, ⟨x, C, d⟩, _, rfl, hu.new _, ⟨_, _, _, he, rfl, rfl, .inl rfl⟩, T2.1, h1⟩
 clear T2
 obtain ⟨hp, g, dr, tk, os⟩ := s₁
 dsimp only at he hC
 clear x1 G1
 repeat (first | (with_reducible refine wpAny_loadPart_at he ?_; rwa [hcls]) | with_reducible refine wpAny_loadPart_at hC ?_ | (with_reducible refine wpAny_isSubtype_exc hC ?_; rwa [hcB]) | wp_step)
 exact wpAny_raiseNew_none hh fin
theorem zhD {M : Model} {E : Value → Shared → Prop} {e C : Addr} {s : Shared} {oe : Obj} {Q : Bool → Shared → Prop} (X : B.K.In s.heap) (hp : zgP B.K C = true) (he : s.heap.get? e = some oe) (hcls : oe.cls = .ref C) (hq : Q true s) :
  wpAny M A (excMatches (.ref e) (.ref C)) Q E s := by
 refine zju.rec (fun nm qn N bs bm hdct sn sub ab col dd k0 k1 k2 k3 k5 hC T => ?_) (zds X hp)
 obtain ⟨hp, g, dr, tk, os⟩ := s
 exact wpAny_excMatches_sub_self hC he hcls T.hasB hq
theorem zn1 {body : List Stmt} {x n : Str} {np hpos : Pos} {b₀ : Stmt} {suite : List Stmt} {C : Addr} {Q : XQ} (Fo : zaf env L ls gs cl fl) (hn : n ∈ ls) (hpE : zgP B.K C = true) (hxg : x ∈ gs) (hg : zpS B x (.ref C))
  (hb : Ex B A env l body Θ (fun X l1 => X.C = C ∧ (∃ outer, A.frames = some (env :: outer) ∧ FrL l1 (env :: outer)) ∧ Q X l1))
  (hx : ∀ X l1, Q X l1 → (X.e, zaa.exc C X.d) ∈ l1 → St B (A.mark (some (.ref X.e))) env n (.ref X.e) l1 (fun _ l3 => Ex B (A.mark (some (.ref X.e))) env l3 (b₀ :: suite) (fun f l4 => ∃ m l5, Le ((L, .ns m) :: l5) l4 ∧ Θ f l5) (fun _ _ => False)) (fun _ _ => False)) :
  Ex1 B A env l (.Try body [.ExceptHandler (some (.Name x np)) (some n) (b₀ :: suite) hpos] [] [] pos) Θ Ψ := .mk <| fun s G => by
 refine wpAny_Try_except (wpAny_mono (hb.go s G) (fun f s1 r => ?_) fun e s1 q => ?_)
 ·refine zeo r fun x1 f' l1 rf G1 h1 => ?_
  clear r
  cases rf with
  | next => exact wpAny_pure ⟨x1, .next, l1, .next, G1, h1⟩
  | brk => exact ⟨x1, .brk, l1, .brk, G1, h1⟩
  | cont => exact ⟨x1, .cont, l1, .cont, G1, h1⟩
  | ret r => exact ⟨x1, _, l1, .ret r, G1, h1⟩
 ·refine ziG q fun x1 X l1 yq98 m1 t1 G1 yq99 yq100 hQ => ?_
  clear q
  subst yq98
  subst yq99
  obtain ⟨outer, hfr, F⟩ := yq100
  refine wpAny_mono (zhq (E := fun _ _ => False) G1 hfr F m1 t1) (fun _ s2 q2 => ?_) fun _ _ q => q.elim
  refine wpAny_mono (zdq (E := fun _ _ => False) q2.2.1 m1 q2.2.2.at none) (fun _ s3 q3 => ?_) fun _ _ q => q.elim
  have x3 := (x1.trans q2.1).trans q3.1
  have G3 := q3.2.1
  have t3 := q3.2.2.1
  refine xEA hg fun gv ge gr => ?_
  clear hg
  have gr' := gr _ G3.kin
  cases gr'
  refine zbS (G3.cells _ m1) fun oe vs e1 e2 _ => ?_
  refine wpAny_handleBy_cons (codeAny_handlers_test (wpAny_Name ?_ (Fo.dbg x (by simp [hxg])).1)) (by intro q; cases q)
  rwa [loadName_read Fo.kind (Fo.glo x hxg)]
  unfold loadGlobal
  rwa [Fo.globals]
  refine wpAny_bind ((looks_nsIn G3.kin ge).here ?_)
  refine wpAny_pure ?_
  refine zhD G3.kin hpE e1 e2 ?_
  refine codeAny_handlers_suite_as ?_
  refine wpAny_mono (zdq (A := A.mark (some (.ref X.e))) (E := fun _ _ => False) G3 m1 t3 none) (fun _ s5 q5 => ?_) fun _ _ q => q.elim
  refine zbt ((hx X l1 hQ m1) s5 (.ref X.e) q5.2.1 .ref) fun _ s6 q6 => ?_
  refine zeo q6 fun x6 _ l6 _ G6 h6 => ?_
  clear q6
  refine zbt (h6.go s6 G6) fun f s7 q7 => ?_
  refine zjz q7 fun x7 f' l7 rf G7 m l8 hle hΘ => ?_
  clear q7
  have G8 := G7.le hle
  refine xE (znb G8 (.head _)) fun mm hns => ?_
  refine wpAny_nameGoes_keeps (Fo.loc n hn) (by rewrite [Fo.locals]; exact hns) (by rewrite [Fo.kind]; rfl) fun h' v _ sb => ?_
  have T := zaB.letGo G8 (h' := h') (fun b hb o e => (sb.2 b (by rwa [Fo.locals]; exact hb)).trans e) (s7.toks + 1)
  exact ⟨(((x3.trans q5.1).trans x6).trans x7).trans T.2, f', l8, znK T.2 rf, T.1, hΘ⟩
end
section
variable {B : zan} {A : Around} {env : Env} {Ψ : XQ} {L : Addr} {ls gs : List Str} {cl fl : List (Str × Addr)} {l : Led} {Θ : Fl → Led → Prop} {pos : Pos} {Φ : EQ}
theorem zaB.claim {s : Shared} (G : zaB B l s) {a : Addr} {c : zaa} (ha : a ∉ l.map (·.1)) (hb : B.h₀.get? a = none) (hc : za2 B s.heap a c) : zaB B ((a, c) :: l) s := by
 refine ⟨G.base, ?_, ?_, ?_, G.os, G.gens⟩
 ·intro p hp
  refine mcE hp ?_ fun p hp => ?_
  ·exact hc
  ·exact G.cells p hp
 ·rwa [List.map_cons, List.nodup_cons]; exact ⟨ha, G.nodup⟩
 ·intro p hp
  refine mcE hp ?_ fun p hp => ?_
  ·exact hb
  ·exact G.apart p hp
noncomputable def zlG (qual : Str) (params : Arguments) (body : Expr) (scope : Scope) (cl : List (Str × Addr)) (pm : Value) (c' : Addr) (ctv : Value) : Obj := kla_obj "<lambda>" qual params body scope cl pm c' ctv
noncomputable def znX (oc : Obj) (qual : Str) : Prop := ∃ vs t, oc.data = .fields vs ∧ vs[1]? = some (.str qual t)
theorem zcF {params : Arguments} {body : Expr} {scope : Scope} {c P : Addr} {f : zaa → Led} {cl' : List (Str × Addr)} (Fo : zaf env L ls gs cl fl) (hdef : defaultsOf params env = ([], [])) (hcode : env.code = .ref c) (hC : (c, P) ∈ B.tabs) {ps0 : Array Value} (hu : Up l P (.raw (tabObj ps0)) f) (htr : TriplesOk ps0.toList) (hnf : codeAmong pos ps0.toList = none)
  (hcl : cl'.map (·.1) = ((scope.names.filter (fun x => x.2 == .free)).map (·.1)).reverse) (hcs : ∀ p ∈ cl', p ∈ cl) (hne : cl' ≠ [])
  (h : ∀ fn c' oc ctv pm qual, znX oc qual → Φ (.ref fn) ((fn, zaa.raw (zlG qual params body scope cl' pm c' ctv)) :: (c', zaa.raw oc) :: f (.raw (tabObj (ps0 ++ #[rawInt pos.line, rawInt pos.col, .ref c']))))) :
  Ev B A env l (.Lambda params body scope pos) Φ Ψ := .mk <| fun s G => by
 have hclos : closureFor scope env = pure cl' := zfI hcl fun p hp => (Fo.cel p (hcs p hp)).1
 refine kla_eval hdef ?_
 refine zb4 B.gns fun mg bm ob hg0 hbm hne0 hbo hcls hdict hdata => ?_
 have kb := G.base
 have hP := za0 G hu.mem
 have hP0 : B.h₀.get? P = none := G.apart _ hu.mem
 have C : CodeHd s.heap c P := (B.codes _ hC).keeps kb
 rwa [makeFunction_eq]
 simp only [List.zip_nil_right, List.filterMap_nil, List.isEmpty_nil, if_true, pure_bind]
 unfold makeTail
 rwa [hclos, Fo.globals]
 refine wpAny_bind (wpAny_pure ?_)
 cases cl' with
 | nil => exact absurd rfl hne
 | cons q r =>
  simp only [List.isEmpty_cons, Bool.false_eq_true, if_false]
  refine wpAny_bind (wpAny_newTextTuple ?_)
  have k1 : ∀ {ot : Obj} b o, s.heap.get? b = some o → (s.heap.push ot).get? b = some o := fun b o e => Heap.get?_push_of_some _ e
  refine wpAny_bind (wpAny_functionCodeX hcode ((C.keeps k1).code (k1 _ _ hP) htr) ((C.keeps k1).tab (k1 _ _ hP)) hnf fun c' h' tk hx hge hlt _ hrec htb hnew => ?_)
  have hg1 : s.heap.Ns mainGlobals mg := hg0.keeps kb
  have hgP : mainGlobals ≠ P := fun q => by
   refine zmh hg0 fun o es ep e hd _ => ?_
   clear hg0
   rw [q, hP0] at e; cases e
  have hbP : bm ≠ P := fun q => by rw [q, hP0] at hbo; cases hbo
  have hg' := (hg1.push _).extBut hx hgP
  refine wpAny_bind (wpAny_builtinsFor hg' hbm hne0 (hx _ _ hbP (k1 _ _ (kb _ _ hbo))) hcls hdict hdata ?_)
  refine wpAny_bind (wpAny_nsGet hg' ?_)
  refine wpAny_bind (wpAny_pure (wpAny_newObj_type ?_ (by size_fits)))
  refine ziF hnew fun P' hP'1 _ yq105 _ => ?_
  clear hnew
  obtain ⟨o, vs, e1, e2, e3, e4⟩ := yq105
  refine zfM hrec fun c2 oc vs2 t2 ec f1 f2 f3 => ?_
  clear hrec
  cases ec
  rw [e1] at f1
  cases f1
  have G1 := G.push { cls := .type "tuple", data := .seq (((q :: r).mergeSort fun a b => decide (a.1.cps.toList ≤ b.1.cps.toList)).map (fun x => Value.ref x.2)).toArray }
  have T := G1.turn (c' := .raw (tabObj (ps0 ++ #[rawInt pos.line, rawInt pos.col, .ref c']))) hu (h' := h') (fun b hb o e => hx b o hb e) (fun x E => ⟨x.1, htb.2⟩) tk
  have hfr := G1.fresh (zas (h := _) hge)
  have G2 := T.1.claim (a := c') (c := .raw o) (by rwa [hu.keys]; exact hfr.1) hfr.2 ⟨⟨by rwa [e2]; exact zbg (by decide), by rwa [e2]; exact zbg (by decide)⟩, e1⟩
  have G3 := G2.newRaw (zlG (env.qual ++ "<lambda>") params body scope (q :: r) ((mg "__name__").getD .none) c' (.ref s.heap.objs.size)) rfl (zbg (by decide)) (zbg (by decide))
  have E : Ext s.heap (h'.push (zlG (env.qual ++ "<lambda>") params body scope (q :: r) ((mg "__name__").getD .none) c' (.ref s.heap.objs.size))) := ((Ext.of_keeps k1).trans T.2).trans (Ext.of_keeps fun b o e => Heap.get?_push_of_some _ e)
  exact ⟨E, _, _, .ref, G3, h _ _ _ _ _ _ ⟨vs2, t2, f2, f3⟩⟩
theorem zeR {f : Addr} {qual : Str} {params : Arguments} {body : Expr} {scope : Scope} {cl : List (Str × Addr)} {pm ctv : Value} {c' : Addr} (hf : (f, zaa.raw (zlG qual params body scope cl pm c' ctv)) ∈ l) : ze7 B (.ref f) l := fun s v G r => by
 cases r
 exact (iEA .frame (.inl rfl) ((Looks.ld (part := none) (za0 G hf)).andThen .now))
noncomputable def zjd (scope : Scope) (ps gs cs : List Str) : Bool := scope.kind == .function && !scope.isCoroutine && !scope.isGenerator && scope.names.all (fun x => x.2 != .cell) && ps.all (fun x => scope.names.lookup x == some .local) && gs.all (fun x => scope.names.lookup x == some .globalImplicit) &&
 cs.all (fun x => scope.names.lookup x == some .free) && decide cs.Nodup && decide ps.Nodup && (ps ++ gs ++ cs).all zbm
theorem zhv {scope : Scope} {ps gs cs : List Str} (h : zjd scope ps gs cs = true) : scope.kind = .function ∧ scope.isCoroutine = false ∧ scope.isGenerator = false ∧ (∀ x ∈ scope.names, x.2 ≠ .cell) ∧ (∀ x ∈ ps, scope.names.lookup x = some .local) ∧ (∀ x ∈ gs, scope.names.lookup x = some .globalImplicit) ∧
  (∀ x ∈ cs, scope.names.lookup x = some .free) ∧ cs.Nodup ∧ ps.Nodup ∧ ∀ x ∈ ps ++ gs ++ cs, zbm x = true := by
 unfold zjd at h
 simp only [Bool.and_eq_true, List.all_eq_true, beq_iff_eq, bne_iff_ne, ne_eq, decide_eq_true_eq, Bool.not_eq_true'] at h
 refine xA h fun yq106 h10 => ?_
 clear h
 obtain ⟨⟨⟨⟨⟨⟨⟨⟨h1, h2⟩, h3⟩, h4⟩, h5⟩, h6⟩, h7⟩, h8⟩, h9⟩ := yq106
 exact ⟨h1, h2, h3, h4, h5, h6, h7, h8, h9, h10⟩
theorem ziD {h : Heap} {ps : List Str} {vs : List Value} {as : List AV} (r : VRs h vs as) (hl : ps.length = as.length) (nd : ps.Nodup) (x : Str) : zjt h ((ps.zip vs).reverse.lookup x) (zgJ (ps.zip (as.map some)) x) := by
 have e : (ps.zip vs).reverse.lookup x = (ps.zip vs).lookup x := by
  have hz : (ps.zip vs).map (·.1) = ps := List.map_fst_zip (by rwa [r.len]; walk_at "o")
  have nd1 : ((ps.zip vs).map (·.1)).Nodup := by rwa [hz]; exact nd
  have nd2 : ((ps.zip vs).reverse.map (·.1)).Nodup := by rwa [List.map_reverse]; exact (List.reverse_perm _).nodup_iff.mpr nd1
  cases q : (ps.zip vs).lookup x with
  | some v => exact zaW (p := (x, v)) nd2 (List.mem_reverse.mpr (mem_of_lookup q))
  | none =>
   cases q2 : (ps.zip vs).reverse.lookup x with
   | none => rfl
   | some v =>
    have := zaW (p := (x, v)) nd1 (List.mem_reverse.mp (mem_of_lookup q2))
    rw [q] at this; cases this
 rwa [e]
 clear e
 induction ps generalizing vs as with
 | nil => trivial
 | cons y t ih =>
  cases r with
  | nil => cases hl
  | cons r rs =>
   rw [List.nodup_cons] at nd
   rwa [List.zip_cons_cons, List.map_cons, List.zip_cons_cons, List.lookup_cons]
   unfold zgJ
   by_cases e : x = y
   ·subst e
    rwa [show (x == x) = true from beq_self_eq_true x, if_pos rfl]; exact r
   ·rwa [show (x == y) = false from beq_eq_false_iff_ne.mpr e, if_neg e]
    exact ih rs (by simpa using hl) nd.2
theorem zkK {f c' : Addr} {qual : Str} {params : Arguments} {body : Expr} {scope : Scope} {cl' : List (Str × Addr)} {pm ctv : Value} {oc : Obj} {ps gs' cs : List Str} {as : List AV} (hr : A.depth < recursionLimit) (hf : (f, zaa.raw (zlG qual params body scope cl' pm c' ctv)) ∈ l) (hc : (c', zaa.raw oc) ∈ l) (ho : znX oc qual)
  (ok : zjd scope ps gs' cs = true) (hcs : cl'.map (·.1) = cs) (hn : ps.length = as.length)
  (hbind : ∀ vs : List Value, vs.length = ps.length → bindArgs (kla_fn "<lambda>" qual params body scope cl' pm (.ref c') ctv) ⟨vs, []⟩ = pure (ps.zip vs))
  (h : ∀ L env, env.frame = some L → zaf env L ps gs' [] cl' → Ev B (A.deeper env) env ((L, .ns (ps.zip (as.map some))) :: l) body (EvQ Φ) (Xp (A.deeper env) env Ψ)) : Fn B A (.ref f) as l Φ Ψ := .mk <| fun s v vs G r rs => by
 cases r
 refine zfo (zhv ok) fun h1 h2 h3 h4 h5 h6 h7 h8 h9 h10 => ?_
 have hfo := za0 G hf
 have hco := za0 G hc
 refine zbE ho fun ws t o1 o2 => ?_
 clear ho
 refine kla_callFunE hr hfo rfl h2 h3 rfl ⟨c', oc, ws, t, rfl, hco, o1, o2⟩ ?_
 rwa [hbind vs (by (rewrite [rs.len, hn]; with_reducible rfl))]
 have hz : (ps.zip vs).map (·.1) = ps := List.map_fst_zip (by rwa [rs.len]; walk_at "o")
 refine wpAny_pure (wpAny_newFunctionEnv h4 (fun y hy => h5 _ (by rwa [← hz]; exact List.mem_map_of_mem hy)) (fun h₁ hns hsb => ⟨G.nolimit.fresh _ hsb, ?_⟩) h1)
 have k1 : ∀ b o, s.heap.get? b = some o → h₁.get? b = some o := fun b o e => hsb.extBut b o (Nat.ne_of_lt (Heap.lt_size e)) (Heap.get?_push_of_some _ e)
 have E := Ext.of_keeps k1
 have C : za2 B h₁ s.heap.objs.size (.ns (ps.zip (as.map some))) := by
  refine ⟨?_, _, hns, fun y => ziD (rs.mono E) hn h9 y⟩
  rwa [List.map_fst_zip (by rwa [List.length_map]; walk_at "o")]; exact h9
 have G1 := G.add k1 (zas (Nat.le_refl _)) C (s.toks + (ps.zip vs).length)
 generalize henv : newEnv scope s.heap.objs.size mainGlobals cl' (qual ++ ".<locals>.") (some f) (.ref c') none builtinsNs = env
 have Fo : zaf env s.heap.objs.size ps gs' [] cl' := by
  subst henv
  refine ⟨rfl, h1, rfl, rfl, h5, h6, fun p hp => (nomatch hp), fun p hp => ⟨?_, ?_⟩, fun x hx => ?_⟩
  ·exact zaW (l := cl') (by rwa [hcs]; exact h8) hp
  ·exact h7 _ (by rwa [← hcs]; exact List.mem_map_of_mem hp)
  ·have := h10 x (by rw [hcs] at hx; simpa using hx)
   unfold zbm at this
   simpa using this
 refine kla_codeExpr (wpAny_mono ((h s.heap.objs.size env (by subst henv; rfl) Fo).go _ G1) (fun v s' q => ?_) (fun e s' q => ?_))
 ·obtain ⟨x, a, l', ra, G2, l'', hle, hΦ⟩ := q
  exact ⟨E.trans x, a, l'', ra, G2.le hle, hΦ⟩
 ·exact zgN (R := fun e s'' => zmf B s.heap Φ Ψ (.error e) s'') (q.ext E) fun _ _ q => q
theorem zfX (n : Nat) : seqIndex? 0 (n + 1) = some 0 := by
 unfold seqIndex?
 simp
 try walk_at "o"
theorem zpV {value slice : Expr} {x : AV} {xs : List AV} (h : Φ x l) (hs : ∀ o i, subscripted slice false o i = operate [o, i] (getItem o i)) : zjw B A value slice (.tup (x :: xs)) (.int 0) l Φ Ψ :=
 zjU (zfX _) rfl (by decide) h hs
end
section
variable {B : zan} {A : Around} {env : Env} {Ψ : XQ} {L : Addr} {ls gs : List Str} {cl fl : List (Str × Addr)} {l : Led} {Θ : Fl → Led → Prop} {pos : Pos} {Φ : EQ}
theorem zkd {i j : Int} (h : Φ (.int (i + j)) l) : Op2 B A (inplaceOp .Add) (.int i) (.int j) l Φ Ψ := fun s v u G r1 r2 => by
 (refine xE r1.inv fun _ yq107 => ?_; subst yq107); (refine xE r2.inv fun _ yq108 => ?_; subst yq108); exact PyProof.Rows.iadd_int (.tok .int G h)
theorem zak {es : List (Str × AV)} {k : Str} (ks : List Str) (e : es.map (·.1) = ks) (h : k ∉ ks) : k ∉ es.map (·.1) := by rwa [e]; exact h
theorem zkQ {e : Expr} {P : AV → Prop} (h1 : Ev B A env l e (fun a l1 => P a ∧ l1 = l) Ψ) (h2 : ∀ a, P a → Φ a l) : Ev B A env l e Φ Ψ := .mk <| Tr.mono h1.go (fun a l1 q => by (refine xA q fun hp yq109 => ?_; clear q; subst yq109); exact h2 a hp) fun _ _ q => q
theorem zn3 {st : Stmt} {P : Led → Prop} (h1 : Ex1 B A env l st (fun f l1 => f = .next ∧ P l1) Ψ) (h2 : ∀ l1, P l1 → Θ .next l1) : Ex1 B A env l st Θ Ψ := .mk <| Tr.mono h1.go (fun f l1 q => by (refine xA q fun yq110 hp => ?_; clear q; subst yq110); exact h2 l1 hp) fun _ _ q => q
theorem zb6 {a : Addr} {es es' : List (Str × AV)} {k : Str} {v : AV} {g : zaa → Led} {Φ : Unit → Led → Prop} (hu : Up l a (.dict es) g)
  (hst : ∀ {h : Heap} {kvs : List (Str × Value)} {vv : Value}, KvR h kvs es → (es.map (·.1)).Nodup → VR h vv v → KvR h (stored kvs k vv) es') (hz : (es.map (·.1)).Nodup → es.length ≤ 10 ^ 6) (h : Φ () (g (.dict es'))) : zp4 B A (.ref a) (.str k) v l Φ Ψ := fun s ov iv vv G r1 r2 r3 => by
 refine xEA (G.cells _ hu.mem) fun kvs yq111 rk => ?_
 obtain ⟨D, hs⟩ := yq111
 exact zlo hu hst (hz (zaS D rk)) h s ov iv vv G r1 r2 r3
end
theorem zbl : PySem.Slot "reversed" "__next__" "reversed.__next__" :=
 .of (owner := "reversed") (n := "__next__") (by rwa [typeLookup_type, builtinLookup_eq_fast]; kernel_rfl) (by decide +kernel) (by decide +kernel) (by decide +kernel)
  (by first | exact .inl (by decide +kernel) | exact .inr (by decide +kernel)) (by rwa [isSubtype_type]; kernel_rfl)
theorem zcR : entryFor table "reversed.__next__" = some Builtin.«reversed.__next__» := entryFor_of_tree (by kernel_rfl)
theorem zdw (a : Value) : argsOk "reversed.__next__" ⟨[a], []⟩ := by unfold argsOk; kernel_rfl
theorem zdc : PySem.Slot "reversed" "__iter__" "reversed.__iter__" :=
 .of (owner := "reversed") (n := "__iter__") (by rwa [typeLookup_type, builtinLookup_eq_fast]; kernel_rfl) (by decide +kernel) (by decide +kernel) (by decide +kernel)
  (by first | exact .inl (by decide +kernel) | exact .inr (by decide +kernel)) (by rwa [isSubtype_type]; kernel_rfl)
theorem zgi (a : Value) : argsOk "reversed.__iter__" ⟨[a], []⟩ := by unfold argsOk; kernel_rfl
theorem zfj : entryFor table "reversed.__iter__" = some Builtin.«dict_keyiterator.__iter__» :=
 entryFor_alias (id' := "dict_keyiterator.__iter__") (by kernel_rfl) (by first | rfl | decide +kernel) (by decide +kernel) (by kernel_rfl)
theorem zfV : PySem.Slot "reversed" "__init__" "object.__init__" :=
 .of (owner := "object") (n := "__init__") (by rwa [typeLookup_type, builtinLookup_eq_fast]; kernel_rfl) (by decide +kernel) (by decide +kernel) (by decide +kernel)
  (by first | exact .inl (by decide +kernel) | exact .inr (by decide +kernel)) (by rwa [isSubtype_type]; kernel_rfl)
theorem zjp : TypeCalled "reversed" "reversed.__new__" "object.__init__" :=
 ⟨by decide +kernel, by decide +kernel, (iEE _ _ PySem.F.mro_reversed), PySem.F.made_reversed, by decide +kernel, by rwa [isSubtype_type]; kernel_rfl, zfV⟩
theorem zhr : typeLookup (.type "tuple") "__reversed__" = pure none := by rwa [typeLookup_type, builtinLookup_eq_fast]; kernel_rfl
theorem zgx : isSubtype (.type "tuple") (.type "dict") = pure false := by rwa [isSubtype_type]; kernel_rfl
section
variable {B : zan} {A : Around} {env : Env} {Ψ : XQ} {L : Addr} {ls gs : List Str} {cl fl : List (Str × Addr)} {l : Led} {Θ : Fl → Led → Prop} {pos : Pos} {Φ : EQ}
theorem zkl (t : Addr) (items : Array Value) (n : Nat) (hz : (items.size : Int) < 2 ^ 63) : Meets (Builtin.«reversed.__new__» ⟨[.type "reversed", .ref t], []⟩) (fun _ R s => IsT s.heap t items n ∧
   ∀ tk, R (.ok (.ret (.ref s.heap.objs.size))) { s with heap := s.heap.push (zk2 t ((items.size : Int) - 1)), toks := tk }) :=
 .of_wp fun prog w A R s h => by
  refine xA h ?_; clear h; intro hT h
  have hty : s.TypeIs (.ref t) "tuple" := ⟨_, hT, rfl⟩
  unfold Builtin.«reversed.__new__»
  refine wpAny_bind (wpAny_of_eq (PySem.newClass_reversed _) ?_)
  try dsimp only
  refine wpAny_bind (wpAny_of_eq (a := ()) (by first | rfl | kernel_rfl) ?_)
  refine wpAny_bind (wpAny_of_eq (a := ()) (by first | rfl | kernel_rfl) ?_)
  try dsimp only
  refine wpAny_bind (wpAny_specialOf hty zhr ?_)
  try dsimp only
  refine wpAny_bind ?_
  show wpAny _ _ (isInstance (.ref t) (.type "dict") >>= _) _ _ _
  refine wpAny_bind (wpAny_isInstance (T := "tuple") (b := false) hty zgx ?_)
  show wpAny _ _ (specialOf (.ref t) "__getitem__" >>= _) _ _ _
  refine wpAny_bind (wpAny_specialOf hty F.slot_tuple_getitem.lookup ?_)
  try dsimp only
  refine wpAny_pure ?_
  refine wpAny_bind (PyProof.Rows.len_tuple (zfn.isTup ⟨n, hT⟩) hz ?_)
  refine wpAny_bind (wpAny_pure ?_)
  refine wpAny_bind ?_
  show wpAny _ _ (newObj (.type "reversed") (.fields #[.ref t, rawInt ((items.size : Int) - 1)])) _ _ _
  refine wpAny_newObj_type ?_ (by size_fits)
  exact wpAny_pure (iEA _ rfl (h _))
theorem zoL {xs : List AV} (hz : xs.length ≤ 10 ^ 6) (h : ∀ a, Φ (.ref a) ((a, zaa.rev xs ((xs.length : Int) - 1)) :: l)) : zaZ B A (.ty "reversed") [.tup xs] l Φ Ψ := .mk <| fun s f vs G r rs => by
 obtain rfl := r.inv
 refine xEA rs.inv1 fun r19 yq112 r1 => ?_
 subst yq112
 cases r1 with
 | @tup t ws _ tp rw =>
 refine xE tp fun n hT => ?_
 clear tp
 have e : ws.size = xs.length := by have := rw.len; simpa using this
 refine callType_new zjp (by decide) (F.typeCall_reversed_1 _) (F.newCall_reversed_1 _) (fun obj => F.args_object_init_2 obj _) F.entry_reversed_new (zkl t ws n (by rwa [e]; walk_at "o")) ⟨hT, fun tk => ?_⟩
 rwa [e]
 have k : ∀ b o, s.heap.get? b = some o → (s.heap.push (zk2 t ((xs.length : Int) - 1))).get? b = some o := fun _ _ e => Heap.get?_push_of_some _ e
 have hself : (s.heap.push (zk2 t ((xs.length : Int) - 1))).get? s.heap.objs.size = some (zk2 t ((xs.length : Int) - 1)) := Heap.get?_push_size _ rfl
 have G1 := G.add (a := s.heap.objs.size) (c := .rev xs ((xs.length : Int) - 1)) k (zas (Nat.le_refl _)) ⟨t, ws, hself, ⟨n, k _ _ hT⟩, rw.mono (Ext.of_keeps k)⟩ tk
 exact ⟨⟨_, hself, rfl⟩, Ext.of_keeps k, _, _, .ref, G1, h _⟩
theorem zh5 {it t : Addr} {i : Int} {s : Shared} {E : Value → Shared → Prop} {Q : Value → Shared → Prop} (hit : s.heap.get? it = some (zk2 t i)) (h : Q (.ref it) s) : wpAny (model B.prog B.w) A (pyIter (.ref it)) Q E s := by
 have hT : s.TypeIs (.ref it) "reversed" := ⟨_, hit, rfl⟩
 refine wpAny_pyIter_slot hT zdc (wpAny_call_entry zdc hT zfj ?_ (zgi _))
 show wpAny _ _ (ret (.ref it)) _ _ s
 exact wpAny_pure ⟨_, rfl, ("reversed"), _, hT, zbl.lookup, h⟩
theorem zlx {it t : Addr} {i : Nat} {ws : Array Value} {n : Nat} {x : Value} {s : Shared} {E : Value → Shared → Prop} {Q : Option Value → Shared → Prop} (hit : s.heap.get? it = some (zk2 t (i : Int))) (ht : IsT s.heap t ws n) (hx : ws[i]? = some x) (hi : (i : Int) < 2 ^ 63)
  (hQ : ∀ h' tk, h'.get? it = some (zk2 t ((i : Int) - 1)) → Heap.SameBut it s.heap h' → Q (some x) { s with heap := h', toks := tk }) : wpAny (model B.prog B.w) A (pyNext (.ref it)) Q E s := by
 have hT : s.TypeIs (.ref it) "reversed" := ⟨_, hit, rfl⟩
 have hty : s.TypeIs (.ref t) "tuple" := ⟨_, ht, rfl⟩
 unfold pyNext
 refine wpAny_bind (wpAny_attempt (wpAny_callSpecial?_slot (name := Str.ofString "__next__") hT zbl
  (wpAny_call_entry zbl hT zcR ?_ (zdw _))))
 unfold Builtin.«reversed.__next__»
 refine wpAny_bind (wpAny_of_eq (a := (Value.ref it, [])) rfl ?_)
 try dsimp only
 refine wpAny_bind (wpAny_field hit (vs := #[.ref t, rawInt (i : Int)]) rfl (x := .ref t) rfl ?_)
 refine wpAny_bind (wpAny_field hit (vs := #[.ref t, rawInt (i : Int)]) rfl (x := rawInt (i : Int)) rfl ?_)
 show wpAny _ _ (if (i : Int) < 0 then _ else _) _ _ _
 rwa [if_neg (by walk_at "o")]
 refine wpAny_bind (wpAny_specialOf hty F.slot_tuple_getitem.lookup ?_)
 rwa [if_neg (by simp)]
 refine wpAny_bind (wpAny_mkInt ?_)
 refine wpAny_bind (wpAny_attempt (PyProof.Rows.getItem_tuple (zfn.isTup ⟨n, ht⟩) (k := (i : Int)) (j := i) (x := x) ?_ ?_ ?_ hx ?_))
 ·omega
 ·walk_at "o"
 ·obtain ⟨hl, _⟩ := Array.getElem?_eq_some_iff.mp hx
  unfold seqIndex?
  simp
  walk_at "o"
 refine wpAny_bind (wpAny_field hit (vs := #[.ref t, rawInt (i : Int)]) rfl (x := rawInt (i : Int)) rfl ?_)
 refine wpAny_bind (wpAny_setField hit (vs := #[.ref t, rawInt (i : Int)]) rfl (by show 1 < 2; decide) ?_)
 refine wpAny_pure ?_
 exact (iEA x rfl (wpAny_pure (hQ _ _ (Heap.get?_update_self _ hit rfl) (Heap.SameBut.update ..))))
theorem zm2 {it t : Addr} {s : Shared} {E : Value → Shared → Prop} {Q : Option Value → Shared → Prop} (hh : A.handled = none) (hit : s.heap.get? it = some (zk2 t (-1)))
  (hQ : ∀ h', (∀ b, b ≠ it → ∀ o, s.heap.get? b = some o → h'.get? b = some o) → Q none { s with heap := h' }) : wpAny (model B.prog B.w) A (pyNext (.ref it)) Q E s := by
 have hT : s.TypeIs (.ref it) "reversed" := ⟨_, hit, rfl⟩
 unfold pyNext
 refine wpAny_bind (wpAny_attempt (wpAny_callSpecial?_slot (name := Str.ofString "__next__") hT zbl
  (wpAny_call_entry zbl hT zcR ?_ (zdw _))))
 unfold Builtin.«reversed.__next__»
 refine wpAny_bind (wpAny_of_eq (a := (Value.ref it, [])) rfl ?_)
 try dsimp only
 refine wpAny_bind (wpAny_field hit (vs := #[.ref t, rawInt (-1)]) rfl (x := .ref t) rfl ?_)
 refine wpAny_bind (wpAny_field hit (vs := #[.ref t, rawInt (-1)]) rfl (x := rawInt (-1)) rfl ?_)
 show wpAny _ _ (if (-1 : Int) < 0 then _ else _) _ _ _
 rwa [if_pos (by decide)]
 refine wpAny_bind (wpAny_rule ?_)
 refine wpAny_bind ?_
 show wpAny _ _ (setField (.ref it) 1 (rawInt (-1)) >>= _) _ _ _
 refine wpAny_bind (wpAny_setField hit (vs := #[.ref t, rawInt (-1)]) rfl (by show 1 < 2; decide) ?_)
 have h2 : (s.heap.update it (Obj.mapFields (·.setIfInBounds 1 (rawInt (-1))))).get? it = some (zk2 t (-1)) := Heap.get?_update_self _ hit rfl
 refine wpAny_setField h2 (vs := #[.ref t, rawInt (-1)]) rfl (by show 0 < 2; decide) ?_
 refine wpAny_bind ?_
 show wpAny _ _ (newExc (.type "StopIteration") [] >>= _) _ _ _
 refine wpAny_bind ?_
 simp only [newExc, newTuple]
 refine wpAny_bind (wpAny_newObj_type ?_ (by size_fits))
 refine wpAny_bind (m := firstArgMember _ _) (wpAny_of_eq (a := Value.none) (by first | rfl | (simp only [firstArgMember]; rfl)) ?_)
 refine wpAny_newObj_type ?_ (by size_fits)
 simp only [raiseNew]
 refine wpAny_bind (wpAny_handled ?_)
 rwa [show A.in1.handled = none from hh]
 refine wpAny_bind (wpAny_pure (wpAny_throw ?_))
 refine wpAny_bind (wpAny_isInstance (T := "StopIteration") (b := true) ⟨_, Heap.get?_push_size _ rfl, rfl⟩ isSubtype_stop ?_)
 refine wpAny_pure (hQ _ fun b hb o e => ?_)
 refine Heap.get?_push_of_some _ (Heap.get?_push_of_some _ ?_)
 exact (Heap.get?_update_other _ _ (Ne.symm hb)).trans ((Heap.get?_update_other _ _ (Ne.symm hb)).trans e)
theorem zox {a : Addr} {xs : List AV} (hh : A.handled = none) (hz : xs.length ≤ 10 ^ 6) : It B A (fun _ => True) (.ref a) xs.reverse (fun _ => True) ((a, zaa.rev xs ((xs.length : Int) - 1)) :: l) l := fun s v E G r => by
 cases r
 refine zbS (G.cells _ (.head _)) fun t ws h1 h2 h3 => ?_
 refine zh5 h1 (zcI a (fun i ls => ls = [(a, zaa.rev xs ((xs.length : Int) - 1 - i))]) ([(a, zaa.rev xs ((xs.length : Int) - 1))]) rfl (Ext.refl _) ?_ (by simp) G)
 constructor
 ·rintro i x ls l' s' E _ hx rfl hreq G'
  refine zbS (G'.cells _ (List.mem_append_left _ (.head _))) fun t ws k1 yq113 k3 => ?_
  obtain ⟨n, k2⟩ := yq113
  obtain ⟨hi, hx'⟩ := List.getElem?_eq_some_iff.mp hx
  have hi' : i < xs.length := by simpa using hi
  have ej : ((xs.length - 1 - i : Nat) : Int) = (xs.length : Int) - 1 - i := by walk_at "o"
  have hxx : xs[xs.length - 1 - i]? = some x := by rw [List.getElem_reverse] at hx'; rwa [← hx']; exact List.getElem?_eq_getElem _
  refine xEA (k3.at hxx) fun u hu ru => ?_
  rw [← ej] at k1
  refine zlx (i := xs.length - 1 - i) k1 k2 (x := u) (by simpa using hu) (by walk_at "o") fun h' tk e1 sb => ?_
  have e2 : ((xs.length - 1 - i : Nat) : Int) - 1 = (xs.length : Int) - 1 - ((i + 1 : Nat) : Int) := by walk_at "o"
  rw [e2] at e1
  have T := G'.turn (c' := .rev xs ((xs.length : Int) - 1 - ((i + 1 : Nat) : Int))) (f := fun c => (a, c) :: l') .head (h' := h') (fun b hb o e => (sb.2 b hb).trans e) (fun _ E => ⟨t, ws, e1, E _ _ ⟨n, k2⟩, k3.mono E⟩) tk
  exact (zfh u rfl T.2 (ru.mono T.2) (fun t' E _ => zdi e1 rfl rfl (by decide) (ze8 _ (Ext.refl _) rfl T.1)))
 ·rintro ls l' s' E _ rfl hreq G'
  refine zbE (G'.cells _ (List.mem_append_left _ (.head _))) fun t ws k1 _ => ?_
  have : (xs.length : Int) - 1 - (xs.reverse.length : Int) = -1 := by rwa [List.length_reverse]; walk_at "o"
  dsimp only at k1
  rw [this] at k1
  refine zm2 hh k1 fun h' x => ?_
  have T := zaB.letGo G' (h' := h') x s'.toks
  exact (iAA rfl T.2 T.1)
 ·rintro i ls l' s' E Q _ rfl G' hQ
  refine zbE (G'.cells _ (List.mem_append_left _ (.head _))) fun t ws k1 _ => ?_
  exact zh5 k1 hQ
end
theorem zi9 : fillsNumberSlot (.type "tuple") "mul" = pure false :=
 PySem.fillsNumberSlot_seq (id := "tuple.__mul__") (r := some (.builtin "tuple.__rmul__")) F.slot_tuple_mul.lookup (by decide +kernel) F.slot_tuple_rmul.lookup (by decide +kernel)
theorem ziQ : seqRepeat? (.type "tuple") = pure (some (.builtin "tuple.__mul__")) := by
 unfold seqRepeat?
 rwa [PySem.seqSlot_of (T := "tuple") (name := "__mul__") (id := "tuple.__mul__") F.slot_tuple_mul.lookup (by decide +kernel), PySem.seqSlot_of (T := "tuple") (name := "__rmul__") (id := "tuple.__rmul__") F.slot_tuple_rmul.lookup (by decide +kernel)]
 rfl
theorem zlv (a : Int) (t : Tok) (l : Addr) (items : Array Value) (n : Nat) :
  Meets (Builtin.«int.__rmul__» ⟨[.int a t, .ref l], []⟩) (fun _ R s => s.heap.get? l = some { cls := .type "tuple", dict := none, data := .seq items n, slots := #[] } ∧ R (.ok (.ret Value.notImplemented)) s) :=
 .of_wp fun prog w A R s h => by obtain ⟨hp, g, d, tk, os⟩ := s; (refine xA h ?_; clear h; intro hl h); wp_walk; exact (iEA _ rfl h)
theorem zd1 (x : Value) : ∀ (n : Nat) (acc : Array Value), List.foldl (fun x1 x2 => x1 ++ x2) acc (List.replicate n #[x]) = acc ++ (List.replicate n x).toArray
 | 0, acc => by simp
 | n + 1, acc => by
  rwa [List.replicate_succ, List.foldl_cons, zd1 x n, List.replicate_succ]
  apply Array.ext'
  simp
theorem zkJ (x : Value) (n : Nat) : List.foldl (fun x1 x2 => x1 ++ x2) #[] (List.replicate n #[x]) = (List.replicate n x).toArray := by
 rwa [zd1]; simp
theorem zlB (a : Int) (t : Tok) (l : Addr) (x : Value) (n : Nat) (h0 : 0 ≤ a) (h1 : a ≤ 1000) :
  Meets (Builtin.«tuple.__mul__» ⟨[.ref l, .int a t], []⟩) (fun _ R s => s.heap.get? l = some { cls := .type "tuple", dict := none, data := .seq #[x] n, slots := #[] } ∧
   (a = 1 → R (.ok (.ret (.ref l))) s) ∧ (a ≠ 1 → R (.ok (.ret (.ref s.heap.objs.size))) { s with heap := s.heap.push { cls := .type "tuple", data := .seq (List.replicate a.toNat x).toArray } })) :=
 .of_wp fun prog w A R s h => by
  obtain ⟨hp, g, d, tk, os⟩ := s; (refine xAA h fun hl h1 h2 => ?_; clear h)
  wp_walk
  rwa [if_neg (by simp; walk_at "o")]
  wp_walk using AutoSeq1.wpAny_loadPart' hl
  by_cases ha : a = 1
  ·rwa [if_pos (by simp [ha])]
   wp_walk using AutoSeq1.wpAny_loadPart' hl
   exact (iEA _ rfl (h1 ha))
  ·rwa [if_neg (by simp [ha])]
   dsimp only
   by_cases hz : a ≤ 0
   ·rwa [if_pos (by simp [hz])]
    have e : a.toNat = 0 := by walk_at "o"
    rw [e] at h2
    unfold Builtin.Tuple.tupleExact
    refine wpAny_bind (wpAny_newObj_type ?_ (by size_fits))
    exact wpAny_pure (iEA _ rfl (h2 ha))
   ·rwa [if_neg (by simp; walk_at "o")]
    rwa [if_neg (by simp; walk_at "o")]
    rwa [if_neg (by unfold Builtin.Tuple.tupleTooMany; rw [sizeLine_eq]; simp; walk_at "o")]
    unfold Builtin.Tuple.tupleExact
    have e : List.foldl (fun x1 x2 => x1 ++ x2) #[] (List.replicate a.toNat #[x]) = (List.replicate a.toNat x).toArray := zkJ x a.toNat
    rwa [e]
    refine wpAny_bind (wpAny_newObj_type ?_ (by show sizeOk (.seq (List.replicate a.toNat x).toArray); simp [sizeOk, sizeLine]; walk_at "o"))
    exact wpAny_pure (iEA _ rfl (h2 ha))
section
variable {B : zan} {A : Around} {env : Env} {Ψ : XQ} {L : Addr} {ls gs : List Str} {cl fl : List (Str × Addr)} {l : Led} {Θ : Fl → Led → Prop} {pos : Pos} {Φ : EQ}
theorem VRs.rep {h : Heap} {v : Value} {a : AV} (r : VR h v a) : ∀ n, VRs h (List.replicate n v) (List.replicate n a)
 | 0 => .nil
 | n + 1 => .cons r (VRs.rep r n)
theorem zi4 {a : AV} {k : Int} (h0 : 0 ≤ k) (h1 : k ≤ 1000) (h : Φ (.tup (List.replicate k.toNat a)) l) : Op2 B A (binaryOp .Mult) (.tup [a]) (.int k) l Φ Ψ := fun s v u G r1 r2 => by
 refine xE r2.inv fun _ yq114 => ?_
 subst yq114
 rename_i tk
 cases r1 with
 | @tup t ws _ tp rw =>
 refine xE tp fun n hT => ?_
 clear tp
 have hw : ∃ x, ws = #[x] ∧ VR s.heap x a := by
  obtain ⟨wl⟩ := ws
  cases rw with
  | cons r rs => cases rs; exact (iEA _ rfl r)
 refine xEA hw fun x yq115 rx => ?_
 clear hw
 subst yq115
 refine wpAny_binaryOp_repeat_ref (T := "tuple") (U := "int") (by decide) ⟨_, hT, rfl⟩ (fun s' => typeIs_int s' k tk) zi9 F.fills_int_mul F.slot_int_rmul ziQ F.slot_int_index.lookup
  (call_meets F.slot_int_rmul (typeIs_int s k tk) F.entry_int_rmul (F.args_int_rmul_2 _ _) (zlv k tk t #[x] n)
   (zjf hT rfl ⟨_, hT, rfl⟩ (call_meets F.slot_tuple_mul ⟨_, hT, rfl⟩ F.entry_tuple_mul (F.args_tuple_mul_2 _ _) (zlB k tk t x n h0 h1) (iAA hT (fun hk => ?_) (fun hk => ?_)))))
 ·have e : List.replicate k.toNat a = [a] := by rwa [hk]; rfl
  rw [e] at h
  exact ⟨Ext.refl _, _, _, .tup ⟨n, hT⟩ (.cons rx .nil), G, h⟩
 ·have kk : ∀ b o, s.heap.get? b = some o → (s.heap.push { cls := .type "tuple", data := .seq (List.replicate k.toNat x).toArray }).get? b = some o := fun _ _ e => Heap.get?_push_of_some _ e
  exact ⟨Ext.of_keeps kk, _, _, .tup zfB (by simpa using (VRs.rep rx k.toNat).mono (Ext.of_keeps kk)), G.push _, h⟩
end
section
variable {B : zan} {A : Around} {env : Env} {Ψ : XQ} {L : Addr} {ls gs : List Str} {cl fl : List (Str × Addr)} {l : Led} {Θ : Fl → Led → Prop} {pos : Pos} {Φ : EQ}
theorem zgQ {x : Str} {xp p2 p3 p4 : Pos} {k : Nat} {a : Addr} {xs : List AV} (h1 : Ev B A env l (.Name x xp) (fun v l1 => v = .ref a ∧ (a, zaa.list xs) ∈ l1 ∧ ∀ D, Φ (.ref D) ((D, zaa.list xs.reverse) :: l1)) Ψ) (hz : xs.length ≤ 10 ^ 6) :
  Ev B A env l (.Subscript (.Name x xp) (.Slice none none (some (.UnaryOp .USub (.Constant (.int 1) k p2) p3)) p4) pos) Φ Ψ := .mk <| fun s G =>
 Subscript_ (zaE (h1.go s G) (Ext.refl _) (fun v av l1 s1 x1 r1 G1 hh => by
  refine xAA hh fun yq116 hm hΦ => ?_
  clear hh
  subst yq116
  cases r1
  refine zbE (zaP G1 hm) fun ws n hl rs => ?_
  have e : ws.size = xs.length := by have := rs.len; simpa using this
  rwa [arm_eval_Slice]
  refine wpAny_bind (wpAny_pure ?_)
  refine wpAny_bind (wpAny_holding (wpAny_pure ?_))
  refine wpAny_bind (wpAny_holding ?_)
  show wpAny _ _ (eval (.UnaryOp .USub (.Constant (.int 1) k p2) p3) env) _ _ s1
  rwa [arm_eval_UnaryOp]
  refine wpAny_bind (wpAny_Constant_int (wpAny_bind (wpAny_standAt (wpAny_holding ?_))))
  refine PyProof.Rows.neg_int ?_
  show wpAny _ _ (newFields "slice" _) _ _ _
  unfold newFields
  refine wpAny_newObj_type ?_ (by size_fits)
  have k1 : ∀ {o : Obj} b o', s1.heap.get? b = some o' → (s1.heap.push o).get? b = some o' := fun b o' e => Heap.get?_push_of_some _ e
  refine subscriptTail_ops (T := "list") ⟨_, k1 _ _ hl, rfl⟩ list_getitem_lookup
   (wpAny_getItem_list_slice (lo := none) (hi := none) (st := some (-1)) ⟨_, k1 _ _ hl, rfl, n, rfl⟩ (Heap.IsSliceOf.new ..) .none .none (.int _ _) (by decide) ?_ (by rwa [e, sizeLine_eq]; walk_at "o")) (by walk_at "r") (by intro _; walk_at "r")
  rwa [krv_pick]
  have k2 : ∀ {o o2 : Obj} b o', s1.heap.get? b = some o' → ((s1.heap.push o).push o2).get? b = some o' := fun b o' e => Heap.get?_push_of_some _ (k1 b o' e)
  have E2 : ∀ {o o2 : Obj}, Ext s1.heap ((s1.heap.push o).push o2) := Ext.of_keeps k2
  refine ⟨x1.trans E2, .ref _, _, .ref, zbV (n := 0) (tk := _) G1 (zas ?_) k2 (Heap.get?_push_size _ rfl) (by
   show VRs _ ws.toList.reverse xs.reverse
   exact rs.rev.mono E2), hΦ _⟩
  show s1.heap.objs.size ≤ (s1.heap.push _).objs.size
  rwa [Heap.size_push]; walk_at "o") fun _ _ e => e)
theorem zmc {t1 t2 : Expr} {k : Nat} {p : Pos} {a : Addr} {x y : AV} {Φ : Unit → Led → Prop} (hh : A.handled = none) (ha : (a, zaa.list [x, y]) ∈ l) (h : AsL B A env [t1, t2] [x, y] l Φ Ψ)
  (hs : (assignEach [t1, t2] env).findIdx? (·.1) = none := by walk_at "r") : As B A env (.Tuple [t1, t2] k p) (.ref a) l Φ Ψ := fun s u G r => by
 cases r
 refine zbE (zaP G ha) fun ws n hl rs => ?_
 obtain ⟨u1, u2, hw⟩ : ∃ u1 u2, ws = #[u1, u2] := by
  obtain ⟨wl⟩ := ws
  cases rs with
  | cons r rs => cases rs with
   | cons r' rs => cases rs; exact (iEE _ _ rfl)
 subst hw
 rwa [arm_assign_Tuple]
 refine wpAny_bind (wpAny_standAt ?_)
 unfold unpack
 rwa [zb2, hs]
 refine wpAny_bind (wpAny_holding ?_)
 have hlt : a < s.heap.objs.size := Heap.lt_size hl
 have k1 : ∀ {o : Obj} b o', s.heap.get? b = some o' → (s.heap.push o).get? b = some o' := fun b o' e => Heap.get?_push_of_some _ e
 unfold unpackItems
 refine wpAny_bind ?_
 unfold notIterableAtAll
 refine wpAny_bind (wpAny_specialOf hl.isList.typeIs F.slot_list_iter.lookup ?_)
 refine wpAny_pure ?_
 simp only [Bool.false_eq_true, if_false]
 refine wpAny_bind (wpAny_holding (wpAny_pyIter_list hl.isList ?_))
 refine wpAny_bind (wpAny_holding ?_)
 show wpAny _ _ (draw _ 2) _ _ _
 show wpAny _ _ (pyNext _ >>= _) _ _ _
 have i0 : (s.heap.push { cls := .type "list_iterator", data := .fields #[.ref a, .int 0 0] }).IsListIter s.heap.objs.size a 0 := ⟨_, Heap.get?_push_size _ rfl, rfl, rfl⟩
 have l0 : (s.heap.push { cls := .type "list_iterator", data := .fields #[.ref a, .int 0 0] }).IsList a #[u1, u2] := ⟨_, k1 _ _ hl, rfl, n, rfl⟩
 have hne : a ≠ s.heap.objs.size := Nat.ne_of_lt hlt
 refine wpAny_bind (wpAny_pyNext_list_item (i := 0) i0 l0 (x := u1) rfl fun h1 it1 sb1 => ?_)
 have l1 : h1.IsList a #[u1, u2] := l0.extBut sb1.extBut hne
 refine wpAny_bind (wpAny_holding ?_)
 show wpAny _ _ (pyNext _ >>= _) _ _ _
 refine wpAny_bind (wpAny_pyNext_list_item (i := 1) it1 l1 (x := u2) rfl fun h2 it2 sb2 => ?_)
 have l2 : h2.IsList a #[u1, u2] := l1.extBut sb2.extBut hne
 refine wpAny_bind (wpAny_holding (wpAny_pure (wpAny_pure (wpAny_pure ?_))))
 rwa [if_neg (by simp)]
 refine wpAny_bind (wpAny_holding (wpAny_pyNext_list_end hh it2 l2 rfl fun h3 e3 => ?_))
 simp only [Option.isSome_none, Bool.false_eq_true, if_false]
 refine wpAny_pure ?_
 have kk : ∀ b o, s.heap.get? b = some o → h3.get? b = some o := fun b o e =>
  have hb : b ≠ s.heap.objs.size := Nat.ne_of_lt (Heap.lt_size e)
  e3 b o hb (sb2.extBut b o hb (sb1.extBut b o hb (k1 _ _ e)))
 exact wpAny_mono (h _ [u1, u2] (G.grow kk _) (rs.mono (Ext.of_keeps kk))) (fun _ _ r => r.ext (Ext.of_keeps kk)) fun _ _ r => r.ext (Ext.of_keeps kk)
theorem zkH {pl : Sem Bool} {name : Str} {a C d : Addr} {x : AV} {es : List (Str × AV)} {Φ : AV × List AV → Led → Prop} (hi : (a, zaa.inst C d) ∈ l) (hd : (d, zaa.dict es) ∈ l) (hx : (name, x) ∈ es) (hf : findIn B.K (.ref C) name = some none)
  (hp : zaj B.K C = true) (hh : zbN x = true) (h : Φ (x, []) l) : zkZ B A pl name (.ref a) l Φ Ψ := fun s v G r => by
 obtain rfl := r.inv
 refine zct (zga G hi hd) fun kvs o I D rs _ hl => ?_
 refine ziH (zbD hp) fun p1 p2 p3 p4 p5 => ?_
 refine xEA (rs.at (zaS D rs) hx) fun y hy ry => ?_
 refine xEA (any_some p3) fun cd hc hdi => ?_
 have hff : findObj B.K C (some o) name = some (.value y) := by
  unfold findObj
  rwa [hc, Option.bind_some, hf, Option.bind_some]
  simp only [Option.bind_some]
  unfold PySem.W.ownOf
  rwa [hdi, if_pos rfl]
  dsimp only
  rwa [hl, hy]; rfl
 have X := G.kin
 have hcan := PySem.F.canon_object_ga
 unfold getMethod specialOf
 refine wpAny_bind (wpAny_bind (I.type.here ((looks_findIn X p1).here ?_)))
 dsimp only
 rwa [hcan, if_neg (by decide)]
 refine wpAny_bind (wpAny_bind (I.type.here ((looks_findIn X p2).here ?_)))
 refine wpAny_bind (wpAny_bind (I.type.here ((looks_findIn X hf).here ?_)))
 refine wpAny_bind (get_value X I p1 hff (zeU ry hh) ?_)
 exact wpAny_pure ⟨Ext.refl _, (x, []), l, ⟨ry, .nil⟩, G.toks _, h⟩
inductive PR (h : Heap) : List (Value × Value) → List (Str × AV) → Prop
 | nil : PR h [] []
 | cons {k : Str} {t : Tok} {v : Value} {a : AV} {vs : List (Value × Value)} {as : List (Str × AV)} : VR h v a → PR h vs as → PR h ((.str k t, v) :: vs) ((k, a) :: as)
theorem PR.mono {h h' : Heap} (x : Ext h h') {vs : List (Value × Value)} {as : List (Str × AV)} (r : PR h vs as) : PR h' vs as := by
 induction r with
 | nil => exact .nil
 | cons r _ ih => exact .cons (r.mono x) ih
theorem PR.kvs {h : Heap} {vs : List (Value × Value)} {as : List (Str × AV)} (r : PR h vs as) : ∃ kvs : List (Str × Value), Carries (strKind B.prog B.w) vs kvs ∧ KvR h kvs as := by
 induction r with
 | nil => exact (iEA ([]) trivial .nil)
 | @cons k t v _ _ _ r _ ih => exact xEA ih fun kvs h1 h2 => (iEA ((k, v) :: kvs) ⟨(strKind_is B.prog B.w k t), rfl, h1⟩ (.cons r h2))
structure Pr (B : zan) (A : Around) (env : Env) (pos : Pos) (l : Led) (ks : List (Option Expr)) (vs : List Expr) (Φ : List (Str × AV) → Led → Prop) (Ψ : XQ) : Prop where
 mk ::
 go : Tr B A PR (evalPairs (pairTrees ks vs env pos)) l Φ Ψ
theorem zh8 {Φ : List (Str × AV) → Led → Prop} (h : Φ [] l) : Pr B A env pos l [] [] Φ Ψ := .mk fun s G => evalPairs_nil (.here .nil G h)
theorem zb0 {k : Str} {n : Nat} {p : Pos} {v : Expr} {ks : List (Option Expr)} {vs : List Expr} {Φ : List (Str × AV) → Led → Prop} (h : Ev B A env l v (fun a l1 => Pr B A env pos l1 ks vs (fun as l2 => Φ ((k, a) :: as) l2) Ψ) Ψ) :
  Pr B A env pos l (some (.Constant (.str k) n p) :: ks) (v :: vs) Φ Ψ := .mk fun s G => by
 show wpAny _ _ (do
  let kv ← eval (.Constant (.str k) n p) env
  let vv ← holding [kv] (do let x ← eval v env; standAt pos; pure x)
  return (kv, vv) :: (← holding [kv, vv] (evalPairs (pairTrees ks vs env pos)))) _ _ s
 refine wpAny_bind (wpAny_Constant_str ?_)
 have G0 := G.toks (s.toks + 1)
 refine wpAny_bind (wpAny_holding (wpAny_bind (zaE (h.go _ G0) (Ext.refl _) (fun u a l1 s1 x1 r1 G1 h1 => ?_) fun _ _ e => e)))
 refine wpAny_bind (wpAny_standAt (wpAny_pure ?_))
 refine wpAny_bind (wpAny_holding (zaE (h1.go s1 G1) x1 (fun ws as l2 s2 x2 r2 G2 h2 => ?_) fun _ _ e => e))
 exact wpAny_pure ⟨x1.trans x2, _, l2, .cons (r1.mono x2) r2, G2, h2⟩
theorem zja (kvs : List (Str × Value)) : ∀ (acc : List (Str × Value)), ((acc ++ kvs).map (·.1)).Nodup → PySem.merged acc kvs = acc ++ kvs := by
 induction kvs with
 | nil => intro acc _; simp [PySem.merged]
 | cons p r ih =>
  intro acc nd
  have hp : p.1 ∉ acc.map (·.1) := by
   rw [List.map_append, List.nodup_append] at nd
   intro hm
   exact nd.2.2 _ hm _ (List.mem_map_of_mem (f := (·.1)) (.head r)) rfl
  have hs : stored acc p.1 p.2 = acc ++ [p] := by
   unfold stored
   rwa [if_neg]
   intro q
   refine xEA (List.any_eq_true.mp q) fun y hy e => ?_
   exact hp (List.mem_map.mpr (iEA y hy (by simpa using e)))
  show PySem.merged (stored acc p.1 p.2) r = _
  rwa [hs, ih (acc ++ [p]) (by simpa using nd)]
  simp
theorem zgb {ks : List (Option Expr)} {vs : List Expr} (hall : ks.all (·.isSome) = true) (hl : ks.length = vs.length) (h0 : ks ≠ []) (hlen : ks.length ≤ 15)
  (h : ∀ d, Pr B A env pos ((d, zaa.dict []) :: l) ks vs (fun as l1 => (as.map (·.1)).Nodup ∧ ∃ f, Up l1 d (.dict []) f ∧ Φ (.ref d) (f (.dict as))) Ψ) : Ev B A env l (.Dict ks vs pos) Φ Ψ := .mk fun s G => by
 have hn := pairTrees_length ks vs env pos hall hl
 have hp0 : pairTrees ks vs env pos ≠ [] := by
  intro he
  rw [he] at hn
  exact h0 (List.length_eq_zero_iff.mp hn.symm)
 have lt : sysModules < s.heap.objs.size := modules_low G.nolimit
 have k1 : ∀ b o, s.heap.get? b = some o → (s.heap.push { cls := .type "dict", data := .dict #[] }).get? b = some o := fun b o e => Heap.get?_push_of_some _ e
 have G1 := G.add (h' := s.heap.push { cls := .type "dict", data := .dict #[] }) (a := s.heap.objs.size) (c := .dict []) k1 (zas (Nat.le_refl _)) ⟨[], ⟨Heap.DictOf.new _, beq_eq_false_iff_ne.mpr (Nat.ne_of_gt lt)⟩, .nil⟩ s.toks
 refine wpAny_Dict_pairs (knd := strKind B.prog B.w) (zip_pairTrees ks vs env pos hall hl) hp0 (by rwa [hn]; exact hlen) ?_
 refine zaE ((h s.heap.objs.size).go _ G1) (Ext.of_keeps k1) (fun ws as l1 s1 x1 r1 G2 h2 => ?_) fun _ _ e => e
 refine zn8 h2 fun nd f hu hΦ => ?_
 clear h2
 refine xEA (r1.kvs (B := B)) fun kvs hc hk => ?_
 refine xEA (G2.cells _ hu.mem) fun kv0 yq117 r0 => ?_
 obtain ⟨D0, hs0⟩ := yq117
 cases r0
 have hm : PySem.merged [] kvs = kvs := by
  rwa [zja kvs [] (by rwa [List.nil_append, hk.keys]; exact nd), List.nil_append]
 refine (ze8 kvs hc D0 (fun h' D' sb => ?_))
 rw [hm] at D'
 have T := G2.turn (c' := .dict as) hu (h' := h') (fun b hb o e => (sb.2 b hb).trans e) (fun _ E => ⟨kvs, ⟨D', hs0⟩, hk.mono E⟩) (s1.toks + ws.length)
 exact ⟨((Ext.of_keeps k1).trans x1).trans T.2, _, _, .ref, T.1, hΦ⟩
theorem znm {s : Shared} {kb : List (Str × Value)} {eb : List (Str × AV)} (rb : KvR s.heap kb eb) (nb : (eb.map (·.1)).Nodup) {ka : List (Str × Value)} {ea : List (Str × AV)} (ra : KvR s.heap ka ea)
  (h : ∀ k v, (k, v) ∈ ea → ∃ v', (k, v') ∈ eb ∧ zau v = true ∧ zau v' = true ∧ zd8 v v' = true ∧ A.units + zaH v + zaH v' < cLine) : KeqHits A s kb ka true := by
 induction ra with
 | nil => exact .nil
 | @cons k _ a _ _ r rs ih =>
  refine zn7 (h k a (.head _)) fun v' hm p1 p2 e hu => ?_
  refine xEA (rb.at nb hm) fun y hy ry => ?_
  have := KeqHits.hit (A := A) (s := s) hy (zlY _ (Nat.le_refl _) r ry p1 p2 hu) (ih fun k v hm => h k v (.tail _ hm))
  rw [e] at this
  exact this
theorem zi6 {a b : Addr} {ea eb : List (Str × AV)} (ha : (a, zaa.dict ea) ∈ l) (hb : (b, zaa.dict eb) ∈ l) (hu : A.units + 10 < cLine)
  (hq : (ea.map (·.1)).Nodup → (eb.map (·.1)).Nodup → ea.length = eb.length ∧ ∀ k v, (k, v) ∈ ea → ∃ v', (k, v') ∈ eb ∧ zau v = true ∧ zau v' = true ∧ zd8 v v' = true ∧ zaH v ≤ 2 ∧ zaH v' ≤ 2)
  (h : Φ (.bool true) l) : Op2 B A (compareOp .Eq) (.ref a) (.ref b) l Φ Ψ := fun s v u G r1 r2 => by
 obtain rfl := r1.inv; obtain rfl := r2.inv
 refine xEA (G.cells _ ha) fun ka yq118 ra => ?_
 obtain ⟨Da, sa⟩ := yq118
 refine xEA (G.cells _ hb) fun kb yq119 rb => ?_
 obtain ⟨Db, sb⟩ := yq119
 have na := zaS Da ra
 have nb := zaS Db rb
 refine xA (hq na nb) fun hl hm => ?_
 have hits : KeqHits A.in1 s kb ka true := znm rb nb ra fun k v hv => by
  refine zmI (hm k v hv) fun v' h1 h2 h3 h4 h5 h6 => ?_
  exact ⟨v', h1, h2, h3, h4, (by show A.units + 1 + _ + _ < _; walk_at "o")⟩
 refine keq_eq (knd := strKind B.prog B.w) sa sb Da Db (by walk_at "o") (fun _ => hits) ?_
 have : (ka.length == kb.length && true) = true := by rwa [ra.len, rb.len, hl]; simp
 rwa [this]
 exact .here .bool G h
end
noncomputable def znQ : List Nat → List Nat → Bool
 | _, [] => false
 | [], _ :: _ => true
 | a :: r, b :: t => if a < b then true else if a = b then znQ r t else false
theorem zkp : ∀ a b : List Nat, znQ a b = decide (a < b)
 | a, [] => by simp [znQ]
 | [], b :: t => by simp [znQ]
 | a :: r, b :: t => by
  unfold znQ
  rwa [zkp r t]
  by_cases h1 : a < b
  ·rwa [if_pos h1]; exact (decide_eq_true (List.cons_lt_cons_iff.mpr (.inl h1))).symm
  ·rwa [if_neg h1]
   by_cases h2 : a = b
   ·subst h2; rwa [if_pos rfl]
    by_cases h3 : r < t
    ·rwa [decide_eq_true h3, decide_eq_true (List.cons_lt_cons_iff.mpr (.inr ⟨rfl, h3⟩))]
    ·rwa [decide_eq_false h3, decide_eq_false (fun q => (List.cons_lt_cons_iff.mp q).elim h1 fun z => h3 z.2)]
   ·rwa [if_neg h2]; exact (decide_eq_false (fun q => (List.cons_lt_cons_iff.mp q).elim h1 fun z => h2 z.1)).symm
noncomputable def zjX : Value → Option Str
 | .str a _ => some a
 | _ => none
theorem zfT {v : Value} {a : Str} (e : zjX v = some a) : ∃ t, v = .str a t := by
 cases v with
 | str b t => exact ⟨t, congrArg (Value.str · t) (Option.some.inj e)⟩
 | _ => exact xN e
noncomputable def zfU : Code → Option Bool
 | .call f as => if f == .builtin "str.__lt__" && as.kw.isEmpty && as.pos.length == 2 then (as.pos[0]?.bind zjX).bind fun a => (as.pos[1]?.bind zjX).map fun b => znQ a.cps.toList b.cps.toList else none
 | _ => none
theorem zgz {c : Code} {b : Bool} (h : zfU c = some b) : ∃ x y t u, c = .call (.builtin "str.__lt__") ⟨[.str x t, .str y u], []⟩ ∧ b = decide (x.cps.toList < y.cps.toList) := by
 cases c with
 | call f args =>
  obtain ⟨pos, kw⟩ := args
  by_cases q : (f == .builtin "str.__lt__" && kw.isEmpty && pos.length == 2) = true
  ·have h := (if_pos q).symm.trans h
   have q1 := Bool.and_eq_true_iff.mp q
   have q2 := Bool.and_eq_true_iff.mp q1.1
   refine (znd (eq_of_beq q1.2)).elim fun v z => z.elim fun w e => ?_
   cases e
   refine (Option.bind_eq_some_iff.mp h).elim fun x hx => (Option.map_eq_some_iff.mp hx.2).elim fun y hy => ?_
   refine (zfT hx.1).elim fun t e1 => (zfT hy.1).elim fun u e2 => (zms x y t u ?_ (hy.2.symm.trans (zkp _ _)))
   rwa [e1, e2, eq_of_beq q2.1, List.isEmpty_iff.mp q2.2]
  ·have h := (if_neg q).symm.trans h
   exact xN h
 | _ => exact xN h
noncomputable def evS {α : Type} (S : Setting) : Sem α → Option α
 | .pure a => some a
 | .rule _ k => evS S (k ())
 | .ask k => evS S (k S)
 | .call c none _ _ k => (zfU c).bind fun b => evS S (k (.ok (.ret (.bool b))))
 | _ => none
theorem zhG {prog : Program} {w : World} {A : Around} {s : Shared} {a b : Str} {t u : Tok} {R : Result → Shared → Prop} (h : R (.ok (.ret (.bool (decide (a.cps.toList < b.cps.toList))))) s) :
  codeAny (model prog w) A (.call (.builtin "str.__lt__") ⟨[.str a t, .str b u], []⟩) R s := by
 refine codeAny_call_builtin slot_str_lt.plain entry_str_lt (slot_str_lt.check _ _ _ _ _ _ _ _ (typeIs_str s a t) (args_str_lt _ _) ?_)
 show wpAny _ _ (ret (.bool (decide (a.cps.toList < b.cps.toList)))) _ _ s
 exact wpAny_pure h
theorem zoG {α : Type} {prog : Program} {w : World} {A : Around} {s : Shared} {E : Value → Shared → Prop} {Q : α → Shared → Prop} : ∀ (t : Sem α) {a : α}, evS ⟨prog, w.params⟩ t = some a → Q a s → wpAny (model prog w) A t Q E s := by
 intro t
 induction t with
 | pure b => intro a h hq; cases h; exact wpAny_pure hq
 | rule tag k ih => intro a h hq Γ p hΓ; exact ih () h hq Γ p hΓ
 | ask k ih => intro a h hq Γ p hΓ; exact ih ⟨prog, w.params⟩ h hq Γ p hΓ
 | call c hd g lv k ih =>
  intro a h hq Γ p hΓ
  cases hd with
  | some x => cases h
  | none =>
   change (zfU c).bind (fun b => evS _ (k (.ok (.ret (.bool b))))) = some _ at h
   cases hb : zfU c with
   | none => rw [hb] at h; cases h
   | some b =>
    rw [hb] at h
    refine zn4 (zgz hb) fun x y t u yq120 yq121 => ?_
    subst yq120
    subst yq121
    rwa [Sem.wp_call]
    refine wpCode_mono ?_ (zhG (A := A.mark none) (R := fun r s' => s' = s ∧ r = .ok (.ret (.bool (decide (x.cps.toList < y.cps.toList))))) ⟨rfl, rfl⟩ _ p rfl (hΓ.enter _ none p (by intro x; cases x)))
    intro r s' zq10
    refine xA zq10 fun yq122 yq123 => ?_
    clear zq10
    subst yq122
    subst yq123
    exact ih _ h hq Γ p hΓ
 | _ => intro a h; cases h
noncomputable def zqf (P : Params) (b : Bool) : Params := { P with followText := fun x => bif x == "special-get-raises" then b else P.followText x }
theorem zmU (P : Params) : zqf P (P.followText "special-get-raises") = P := by
 unfold zqf
 have : (fun x => bif x == "special-get-raises" then P.followText "special-get-raises" else P.followText x) = P.followText := by
  funext x
  cases h : x == "special-get-raises" with
  | true => rwa [eq_of_beq h]; rfl
  | false => rfl
 rwa [this]
noncomputable def isStr (x : Str) (v : Value) : Bool := (zjX v).any fun a => a.cps.toList == x.cps.toList
noncomputable def zf4 : List Keyed → List Str → Bool
 | [], o => o.isEmpty
 | k :: r, o => (o.head?.any fun x => isStr x k.2) && zf4 r o.tail
noncomputable def chk (o : Option (Unit × SortSt)) (want : List Str) : Bool := match o with
 | some (_, st) => (failedOf st).isNone && zf4 (arrOf st).toList want
 | none => false
noncomputable def zhx (tk : Nat → Tok) : Nat → List Str → List Keyed
 | _, [] => []
 | i, x :: r => (.str x (tk i), .str x (tk i)) :: zhx tk (i + 1) r
noncomputable def zc7 (names out : List Str) : Prop := ∀ (prog : Program) (P : Params) (b : Bool) (tk : Nat → Tok), chk (evS ⟨prog, zqf P b⟩ (sortRuns'.run (SortSt.mk' oneType' (zhx tk 0 names).toArray #[] 7 none))) out = true
theorem zgo (tk : Nat → Tok) : ∀ (names : List Str) (vs : List Value) (i : Nat), vs.length = names.length → (∀ (j : Nat) (x : Str), names[j]? = some x → vs[j]? = some (.str x (tk (i + j)))) → vs.zip vs = zhx tk i names
 | [], [], _, _, _ => rfl
 | x :: r, v :: vs, i, hl, h => by
  have h0 := h 0 x rfl
  simp only [List.getElem?_cons_zero, Option.some.injEq, Nat.add_zero] at h0
  subst h0
  show _ :: vs.zip vs = _ :: zhx tk (i + 1) r
  rwa [zgo tk r vs (i + 1) (by simpa using hl) fun j y hj => by have := h (j + 1) y (by simpa using hj); rw [show i + 1 + j = i + (j + 1) by walk_at "o"]; simpa using this]
 | [], _ :: _, _, hl, _ => by simp at hl
 | _ :: _, [], _, hl, _ => by simp at hl
theorem zlL {h : Heap} {x : Str} {v : Value} (e : isStr x v = true) : VR h v (.str x) := by
 unfold isStr at e
 cases q : zjX v with
 | none => rw [q] at e; exact xB e
 | some a =>
  rw [q] at e
  have e1 : a = x := by cases a; cases x; exact congrArg Str.mk (Array.ext' (eq_of_beq (show (_ == _) = true from e)))
  exact (zfT q).elim fun t u => u ▸ e1 ▸ .str
theorem zkj {h : Heap} {xs : List Keyed} : ∀ {out : List Str}, zf4 xs out = true → VRs h (xs.map (·.2)) (out.map AV.str) := by
 induction xs with
 | nil => intro out e; exact (List.isEmpty_iff.mp (show out.isEmpty = true from e)) ▸ .nil
 | cons k r ih =>
  intro out e
  cases out with
  | nil => exact xB e
  | cons x t =>
   have q := Bool.and_eq_true_iff.mp (show (isStr x k.2 && zf4 r t) = true from e)
   exact .cons (zlL q.1) (ih q.2)
theorem zmn : ∀ (names : List Str) (vs : List Value), vs.length = names.length → (∀ (j : Nat) (x : Str), names[j]? = some x → ∃ t : Tok, vs[j]? = some (Value.str x t)) → StrsAre vs names
 | [], [], _, _ => .nil
 | x :: r, v :: vs, hl, h => by
  refine xE (h 0 x rfl) fun t ht => ?_
  simp only [List.getElem?_cons_zero, Option.some.injEq] at ht
  subst ht
  exact .cons x t (zmn r vs (by simpa using hl) fun j y hj => by (refine xE (h (j + 1) y (by simpa using hj)) fun u hu => ?_); exact ⟨u, by simpa using hu⟩)
 | [], _ :: _, hl, _ => by simp at hl
 | _ :: _, [], hl, _ => by simp at hl
theorem ziN {prog : Program} {w : World} {A : Around} {s : Shared} {E : Value → Shared → Prop} {P : Fin → Shared → Prop} {a : Addr} {vs : List Value} {n : Nat} {names out : List Str} (ho : s.heap.get? a = some (seqObj "list" vs.toArray n))
  (hl : vs.length = names.length) (hv : ∀ (j : Nat) (x : Str), names[j]? = some x → ∃ t : Tok, vs[j]? = some (Value.str x t)) (h2 : 2 ≤ names.length) (hn : names.length ≤ 1000) (ho2 : out.length ≤ 1000) (hs : zc7 names out)
  (h : ∀ ws : Array Value, (∀ h' : Heap, VRs h' ws.toList (out.map AV.str)) → P (.done (.ret .none)) { s with heap := sortedHeap s.heap a vs ws }) :
  wpAny (model prog w) A (Builtin.«list.sort» ⟨[.ref a], []⟩) P E s := by
 rwa [list_sort_plain]
 have ha : a < s.heap.objs.size := Heap.lt_size ho
 refine wpAny_bind (listItems_at ho rfl ?_)
 refine wpAny_bind (listUpdate_at ho rfl ?_ (by rwa [List.size_toArray, hl, sizeLine_eq]; walk_at "o"))
 obtain ⟨e1, ho1⟩ : ∃ e1, (s.heap.update a (Obj.mapSeq fun _ => #[])).get? a = some (seqObj "list" #[] e1) := ⟨_, get?_update_seq ho (fun _ => #[])⟩
 refine wpAny_bind (seqEpoch_at ho1 rfl ?_)
 refine wpAny_bind (wpAny_newTuple ?_ (by rwa [List.toList_toArray, hl, sizeLine_eq]; walk_at "o"))
 refine wpAny_bind (wpAny_newList ?_)
 refine wpAny_holding ?_
 have ho6 : (((s.heap.update a (Obj.mapSeq fun _ => #[])).push (seqObj "tuple" vs.toArray 0)).push (seqObj "list" #[] 0)).get? a = some (seqObj "list" #[] e1) := by
  rwa [Heap.get?_push_ne _ _ _ (by rwa [size_push', Heap.size_update]; exact Nat.ne_of_lt (Nat.lt_succ_of_lt ha)), Heap.get?_push_ne _ _ _ (by rwa [Heap.size_update]; exact Nat.ne_of_lt ha)]
  exact ho1
 show wpAny (model prog w) A _ P E { s with heap := ((s.heap.update a (Obj.mapSeq fun _ => #[])).push (seqObj "tuple" vs.toArray 0)).push (seqObj "list" #[] 0) }
 dsimp only
 have hsz : vs.toArray.size = vs.length := by simp
 have h2' : ¬ vs.toArray.size < 2 := by rwa [hsz, hl]; walk_at "o"
 rwa [if_neg h2', if_neg h2']
 obtain ⟨v₁, v₂, rest, hvs⟩ : ∃ v₁ v₂ rest, vs = v₁ :: v₂ :: rest := by
  match vs, hsz, h2' with
  | [], _, h2 => simp at h2
  | [_], _, h2 => simp at h2
  | v₁ :: v₂ :: rest, _, _ => exact (zqu v₁ v₂ rest rfl)
 have hst := zmn names vs hl hv
 have hkk : keyKind' vs.toArray = pure oneType' := by
  rw [hvs] at hst ⊢
  cases names with
  | nil => cases hst
  | cons x r =>
   cases r with
   | nil => cases hst with | cons _ _ h => cases h
   | cons y r => exact keyKind_strs hst
 rwa [hkk]
 refine wpAny_bind (wpAny_pure ?_)
 let tk : Nat → Tok := fun i => match vs[i]? with | some (.str _ t) => t | _ => 0
 have hz : vs.zip vs = zhx tk 0 names := zgo tk names vs 0 hl fun j x hj => by
  refine xE (hv j x hj) fun t ht => ?_
  rwa [ht, Nat.zero_add]
  show _ = some (Value.str x (match vs[j]? with | some (.str _ t) => t | _ => 0))
  rwa [ht]
 have hc := hs prog w.params (w.params.followText "special-get-raises") tk
 rw [zmU] at hc
 have hza : vs.toArray.zip vs.toArray = (zhx tk 0 names).toArray := by rwa [← hz]; simp
 rwa [hza]
 cases hev : evS (α := Unit × SortSt) ⟨prog, w.params⟩ (sortRuns'.run (SortSt.mk' oneType' (zhx tk 0 names).toArray #[] 7 none)) with
 | none => rw [hev] at hc; cases hc
 | some r =>
  obtain ⟨u, st'⟩ := r
  rw [hev] at hc
  unfold chk at hc
  simp only [Bool.and_eq_true] at hc
  refine wpAny_bind (zoG _ hev ?_)
  have hf : failedOf st' = none := by
   cases e : failedOf st' with
   | none => rfl
   | some x => have := hc.1; rw [e] at this; cases this
  have hr : ∀ h' : Heap, VRs h' ((arrOf st').map (·.2)).toList (out.map AV.str) := fun h' => by rwa [Array.toList_map]; exact zkj hc.2
  dsimp only
  refine wpAny_bind (seqEpoch_at ho6 rfl ?_)
  refine wpAny_bind (listUpdate_at ho6 rfl ?_ (hsz2 := by have := (hr s.heap).len; rw [Array.length_toList, List.length_map] at this; rwa [this, sizeLine_eq]; walk_at "o"))
  rwa [hf]
  simp only [bne_self_eq_false, Bool.false_eq_true, if_false]
  exact wpAny_pure (h _ hr)
section
variable {B : zan} {A : Around} {env : Env} {Ψ : XQ} {l : Led} {Φ : EQ}
theorem zkT {d : Addr} {es : List (Str × AV)} (hh : A.handled = none) (hd : (d, zaa.dict es) ∈ l) {names out : List Str} (hn : es.map (·.1) = names) (h2 : 2 ≤ names.length) (hl : names.length ≤ 1000) (ho : out.length ≤ 1000) (hs : zc7 names out)
  (h : ∀ D, Φ (.ref D) ((D, zaa.list (out.map AV.str)) :: l)) : zaZ B A (.bi "sorted") [.ref d] l Φ Ψ := .mk <| fun s f vs G r rs => by
 obtain rfl := r.inv
 refine xEA rs.inv1 fun r19 yq124 r1 => ?_
 subst yq124
 obtain rfl := r1.inv
 refine xEA (G.cells _ hd) fun kvs yq125 rk => ?_
 obtain ⟨D, lo⟩ := yq125
 refine xE D.dictAt fun ep hat => ?_
 have hkl : kvs.length = names.length := by rwa [← hn, List.length_map, rk.len]
 refine call_function_entry kind_sorted plain_sorted entry_sorted (args_sorted1 _) ?_
 unfold Builtin.«sorted»
 refine wpAny_bind (m := checkCount "sorted" 1 1 _) (wpAny_pure ?_)
 refine wpAny_bind (kdu_collect (A := A.in1) (kdl_dict (kvs := kvs) (ep := ep) lo) hh hat (by rwa [hkl, sizeLine_eq]; walk_at "o") fun h' tk acc hk hacc => ?_)
 have hl1 : acc.toList.length = names.length := by rwa [Array.length_toList, ← hkl]; exact hacc.1
 refine wpAny_bind (wpAny_newList ?_ (by rwa [hl1, sizeLine_eq]; walk_at "o"))
 have hself : (h'.push { cls := .type "list", data := .seq acc.toList.toArray }).get? h'.objs.size = some { cls := .type "list", data := .seq acc.toList.toArray } := Heap.get?_push_size _ rfl
 have hv : ∀ (j : Nat) (x : Str), names[j]? = some x → ∃ t : Tok, acc.toList[j]? = some (Value.str x t) := fun j x hj => by
  have hj2 : j < acc.toList.length := by rwa [hl1]; exact (List.getElem?_eq_some_iff.mp hj).1
  refine zbE (hacc.2 j acc.toList[j] (by (rewrite [← Array.getElem?_toList, List.getElem?_eq_getElem hj2]; with_reducible rfl))) fun k y hx hk2 => ?_
  have hkx : k = x := by
   have : (kvs.map (·.1))[j]? = some k := by rewrite [List.getElem?_map, hx]; rfl
   rw [rk.keys, hn, hj] at this; exact (Option.some.inj this).symm
  subst hkx
  rwa [List.getElem?_eq_getElem hj2]
  revert hk2
  generalize acc.toList[j] = v
  intro hk2
  cases v <;> first | cases hk2 | exact ⟨_, by (rewrite [← eq_of_beq (show _ = true from hk2)]; with_reducible rfl)⟩
 refine wpAny_bind (wpAny_holding (wpAny_call_entry slot_list_sort ⟨_, hself, rfl⟩ entry_list_sort (ziN hself hl1 hv h2 hl ho hs fun ws hws => (iEA _ rfl ?_)) (args_list_sort _)))
 refine wpAny_pure (iEA _ rfl ?_)
 have ha : h'.objs.size < (h'.push { cls := .type "list", data := .seq acc.toList.toArray }).objs.size := Heap.lt_size hself
 have k1 : ∀ b o, s.heap.get? b = some o → b ≠ h'.objs.size ∧ (h'.push { cls := .type "list", data := .seq acc.toList.toArray }).get? b = some o := fun b o e => ⟨fun q => absurd (Heap.lt_size (hk b o e)) (by rwa [q]; exact Nat.lt_irrefl _), Heap.get?_push_of_some _ (hk b o e)⟩
 obtain ⟨e1, ho1⟩ : ∃ e1, ((h'.push { cls := .type "list", data := .seq acc.toList.toArray }).update h'.objs.size (Obj.mapSeq fun _ => #[])).get? h'.objs.size = some (seqObj "list" #[] e1) := ⟨_, get?_update_seq hself (fun _ => #[])⟩
 have ho6 := Heap.get?_push_of_some (seqObj "list" #[] 0) (Heap.get?_push_of_some (seqObj "tuple" acc.toList.toArray 0) ho1)
 have hD := get?_update_seq ho6 (fun _ => ws)
 have k2 : ∀ b o, s.heap.get? b = some o → (sortedHeap (h'.push { cls := .type "list", data := .seq acc.toList.toArray }) h'.objs.size acc.toList ws).get? b = some o := fun b o e => by
  refine xA (k1 b o e) fun hne e2 => ?_
  unfold sortedHeap
  rwa [Heap.get?_update_other _ _ (Ne.symm hne)]
  refine Heap.get?_push_of_some _ (Heap.get?_push_of_some _ ?_)
  rwa [Heap.get?_update_other _ _ (Ne.symm hne)]
  exact e2
 have hfree : s.heap.get? h'.objs.size = none := by
  cases q : s.heap.get? h'.objs.size with
  | none => rfl
  | some o => exact ((k1 _ _ q).1 rfl).elim
 have G1 := G.add (a := h'.objs.size) (c := .list (out.map AV.str)) k2 hfree ⟨ws, _, hD, hws _⟩ tk
 exact ⟨Ext.of_keeps k2, _, _, .ref, G1, h _⟩
end
noncomputable def zfi (K : Frag) (a : Addr) : FuncData := (znp K a).getD default
noncomputable def zbj (K : Frag) (a : Addr) : Value := (zfi K a).code
noncomputable def zd5 (K : Frag) (T i : Nat) : Value := match K.lookup T with
 | some ⟨_, _, .seq xs _, _⟩ => (xs[i]?).getD .none
 | _ => .none
noncomputable def zqF : Stmt → List Stmt
 | .FunctionDef (body := b) .. => b
 | .ClassDef (body := b) .. => b
 | _ => []
noncomputable def atB : List Stmt → Nat → List Stmt
 | s :: _, 0 => zqF s
 | _ :: r, n + 1 => atB r n
 | [], _ => []
noncomputable abbrev top : List Stmt := PySem.Challenge.pw_pq0229_01.main.body
noncomputable def znk (j : Int) : Value → Bool
 | .int i _ => i == j
 | _ => false
theorem zig {h : Heap} {v : Value} {j : Int} (e : znk j v = true) : VR h v (.int j) := by
 cases v with
 | int i t => exact (eq_of_beq (show (i == j) = true from e)) ▸ .int
 | _ => exact xB e
noncomputable def zmB (v : Value) : AV → Bool
 | .int j => znk j v
 | .bool b => v == .bool b
 | .none => v == .none
 | _ => false
theorem zc5 {h : Heap} {v : Value} {a : AV} (e : zmB v a = true) : VR h v a := by
 cases a with
 | int j => exact zig e
 | bool b => exact (eq_of_beq (show (v == .bool b) = true from e)).symm ▸ .bool
 | none => exact (eq_of_beq (show (v == Value.none) = true from e)).symm ▸ .none
 | _ => exact xB e
theorem zaY {α : Type} {f : Str → Option (Option α)} {l : List Str} (e : (l.all fun x => match f x with | some none => true | _ => false) = true) : ∀ x ∈ l, f x = some none := fun x hx => by
 have q := List.all_eq_true.mp e x hx
 cases g : f x with
 | none => rw [g] at q; cases q
 | some o => cases o with
  | none => rfl
  | some _ => rw [g] at q; cases q
noncomputable def zeS (K : Frag) (x : Str) (i : Int) : Bool := ((nsIn K mainGlobals x).bind id).any (znk i)
theorem zg2 {K : Frag} {s : Shared} {fd : FuncData} {args : Args} {binds : List (Str × Value)} {T : Addr} (X : K.In s.heap) (hd : fd.defaults = .ref T) (ho : K.lookup T = some ⟨.type "tuple", none, .seq #[zd5 K T 0] 0, #[]⟩)
  (h : ∃ k : Option (Array Value) → Sem (List (Str × Value)), bindArgs fd args = seqItems? fd.defaults >>= k ∧ k (some #[zd5 K T 0]) = pure binds) : BindsTo s fd args binds := by
 obtain ⟨k, h1, h2⟩ := h
 exact binds_K X hd ho rfl h1 h2
noncomputable def zqa (o : Obj) : Option (List Value) := match o.data with
 | .seq ws _ => if o.cls == .type "tuple" && o.dict == none && o.slots.isEmpty then some ws.toList else none
 | _ => none
noncomputable def rdV (K : Frag) : Nat → Value → Option AV
 | 0, _ => none
 | n + 1, v => match v with
  | .bool b => some (.bool b)
  | .str x _ => some (.str x)
  | .ref a => ((K.lookup a).bind zqa).bind fun ws => (ws.mapM (rdV K n)).map .tup
  | _ => none
noncomputable abbrev zoq : AV := .tup [.str "func", .tup [], .tup [], .bool false]
noncomputable def zdO : List Str := ["int", "int8", "int16", "int32", "int64", "uint", "uint8", "uint16", "uint32", "uint64"]
noncomputable def zl9 : List Str := ["len", "cap", "append", "copy", "delete", "make", "new", "panic", "recover", "print", "close", "min", "max"]
noncomputable abbrev zb5 : AV := .tup [.str "untyped", .str "int"]
noncomputable def zar : List Str := ["packages", "named", "globals", "consts", "funcs", "bodies", "files", "scopes", "order", "starts", "settle", "late_keys", "late_parts", "late_sizes", "is_whole"]
noncomputable def zeq (K : Frag) (x : Str) (a : AV) : Prop := ((nsIn K mainGlobals x).bind id).bind (rdV K 3) = some a
structure zbA (K : Frag) (a : Addr) (ps : List (Str × Bool)) (rest : List Str) (cs : List (Str × Option Nat)) (gs : List Str) (bd : List Stmt) : Prop where
 at_ : znp K a = some (zfi K a)
 ok : zpZ K a ps rest cs gs = true
 bd : (zfi K a).body = .stmts bd
noncomputable def za5 (K : Frag) (a : Addr) (ps : List Str) (nd : Nat) (dv : List Value) : Prop :=
 ∀ (s : Shared) (vs : List Value), K.In s.heap → vs.length = nd → BindsTo s (zfi K a) ⟨vs, []⟩ (ps.zip (vs ++ dv))
theorem fb0 {K : Frag} {a : Addr} (h : bindArgs (zfi K a) ⟨[], []⟩ = pure []) : za5 K a [] 0 [] := fun s vs X e => by obtain rfl := List.eq_nil_of_length_eq_zero e; exact BindsTo.of_eq h
theorem fb1 {K : Frag} {a : Addr} {p0 : Str} (h : ∀ v0, bindArgs (zfi K a) ⟨[v0], []⟩ = pure [(p0, v0)]) : za5 K a [p0] 1 [] := fun s vs X e => by obtain ⟨v0, rfl⟩ := zk3 e; exact BindsTo.of_eq (h v0)
theorem fb2 {K : Frag} {a : Addr} {p0 p1 : Str} (h : ∀ v0 v1, bindArgs (zfi K a) ⟨[v0, v1], []⟩ = pure [(p0, v0), (p1, v1)]) : za5 K a [p0, p1] 2 [] := fun s vs X e => by obtain ⟨v0, v1, rfl⟩ := znd e; exact BindsTo.of_eq (h v0 v1)
theorem fb3 {K : Frag} {a : Addr} {p0 p1 p2 : Str} (h : ∀ v0 v1 v2, bindArgs (zfi K a) ⟨[v0, v1, v2], []⟩ = pure [(p0, v0), (p1, v1), (p2, v2)]) : za5 K a [p0, p1, p2] 3 [] := fun s vs X e => by obtain ⟨v0, v1, v2, rfl⟩ := zpW e; exact BindsTo.of_eq (h v0 v1 v2)
theorem fb4 {K : Frag} {a : Addr} {p0 p1 p2 p3 : Str} (h : ∀ v0 v1 v2 v3, bindArgs (zfi K a) ⟨[v0, v1, v2, v3], []⟩ = pure [(p0, v0), (p1, v1), (p2, v2), (p3, v3)]) : za5 K a [p0, p1, p2, p3] 4 [] := fun s vs X e => by obtain ⟨v0, v1, v2, v3, rfl⟩ := zqn e; exact BindsTo.of_eq (h v0 v1 v2 v3)
theorem fb5 {K : Frag} {a : Addr} {p0 p1 p2 p3 p4 : Str} (h : ∀ v0 v1 v2 v3 v4, bindArgs (zfi K a) ⟨[v0, v1, v2, v3, v4], []⟩ = pure [(p0, v0), (p1, v1), (p2, v2), (p3, v3), (p4, v4)]) : za5 K a [p0, p1, p2, p3, p4] 5 [] := fun s vs X e => by obtain ⟨v0, v1, v2, v3, v4, rfl⟩ := zqm e; exact BindsTo.of_eq (h v0 v1 v2 v3 v4)
theorem fb6 {K : Frag} {a : Addr} {p0 p1 p2 p3 p4 p5 : Str} (h : ∀ v0 v1 v2 v3 v4 v5, bindArgs (zfi K a) ⟨[v0, v1, v2, v3, v4, v5], []⟩ = pure [(p0, v0), (p1, v1), (p2, v2), (p3, v3), (p4, v4), (p5, v5)]) : za5 K a [p0, p1, p2, p3, p4, p5] 6 [] := fun s vs X e => by obtain ⟨v0, v1, v2, v3, v4, v5, rfl⟩ := zqW e; exact BindsTo.of_eq (h v0 v1 v2 v3 v4 v5)
noncomputable def zfm (fd : FuncData) (vs : List Value) : {k : Option (Array Value) → Sem (List (Str × Value)) // bindArgs fd ⟨vs, []⟩ = seqItems? fd.defaults >>= k} := by
 refine ⟨?_, ?_⟩
 rotate_left
 ·unfold bindArgs
  walk_at "r"
theorem fe1 {K : Frag} {a : Addr} {ps : List Str} {dv : List Value} {T : Addr} (hd : (zfi K a).defaults = .ref T) (ho : K.lookup T = some ⟨.type "tuple", none, .seq #[zd5 K T 0] 0, #[]⟩) (h : ∀ v0, (zfm (zfi K a) [v0]).1 (some #[zd5 K T 0]) = pure (ps.zip ([v0] ++ dv))) : za5 K a ps 1 dv := fun s vs X e => by obtain ⟨v0, rfl⟩ := zk3 e; exact zg2 X hd ho ⟨_, (zfm _ _).2, h v0⟩
theorem fe2 {K : Frag} {a : Addr} {ps : List Str} {dv : List Value} {T : Addr} (hd : (zfi K a).defaults = .ref T) (ho : K.lookup T = some ⟨.type "tuple", none, .seq #[zd5 K T 0] 0, #[]⟩) (h : ∀ v0 v1, (zfm (zfi K a) [v0, v1]).1 (some #[zd5 K T 0]) = pure (ps.zip ([v0, v1] ++ dv))) : za5 K a ps 2 dv := fun s vs X e => by obtain ⟨v0, v1, rfl⟩ := znd e; exact zg2 X hd ho ⟨_, (zfm _ _).2, h v0 v1⟩
theorem fe3 {K : Frag} {a : Addr} {ps : List Str} {dv : List Value} {T : Addr} (hd : (zfi K a).defaults = .ref T) (ho : K.lookup T = some ⟨.type "tuple", none, .seq #[zd5 K T 0] 0, #[]⟩) (h : ∀ v0 v1 v2, (zfm (zfi K a) [v0, v1, v2]).1 (some #[zd5 K T 0]) = pure (ps.zip ([v0, v1, v2] ++ dv))) : za5 K a ps 3 dv := fun s vs X e => by obtain ⟨v0, v1, v2, rfl⟩ := zpW e; exact zg2 X hd ho ⟨_, (zfm _ _).2, h v0 v1 v2⟩
theorem fe4 {K : Frag} {a : Addr} {ps : List Str} {dv : List Value} {T : Addr} (hd : (zfi K a).defaults = .ref T) (ho : K.lookup T = some ⟨.type "tuple", none, .seq #[zd5 K T 0] 0, #[]⟩) (h : ∀ v0 v1 v2 v3, (zfm (zfi K a) [v0, v1, v2, v3]).1 (some #[zd5 K T 0]) = pure (ps.zip ([v0, v1, v2, v3] ++ dv))) : za5 K a ps 4 dv := fun s vs X e => by obtain ⟨v0, v1, v2, v3, rfl⟩ := zqn e; exact zg2 X hd ho ⟨_, (zfm _ _).2, h v0 v1 v2 v3⟩
theorem fe5 {K : Frag} {a : Addr} {ps : List Str} {dv : List Value} {T : Addr} (hd : (zfi K a).defaults = .ref T) (ho : K.lookup T = some ⟨.type "tuple", none, .seq #[zd5 K T 0] 0, #[]⟩) (h : ∀ v0 v1 v2 v3 v4, (zfm (zfi K a) [v0, v1, v2, v3, v4]).1 (some #[zd5 K T 0]) = pure (ps.zip ([v0, v1, v2, v3, v4] ++ dv))) : za5 K a ps 5 dv := fun s vs X e => by obtain ⟨v0, v1, v2, v3, v4, rfl⟩ := zqm e; exact zg2 X hd ho ⟨_, (zfm _ _).2, h v0 v1 v2 v3 v4⟩
theorem znT {B : zan} {A : Around} {l : Led} {Ψ : XQ} {Φ : EQ} {f : Addr} {ps : List (Str × Bool)} {rest gs : List Str} {cs : List (Str × Option Nat)} {nd : Nat} {dv : List Value} {as ds : List AV} {bd : List Stmt} (F : zbA B.K f ps rest cs gs bd) (Fb : za5 B.K f (ps.map (·.1)) nd dv) (hn : nd = as.length) (hr : A.depth < recursionLimit) (hl : ps.length = as.length + ds.length) (hds : ∀ h, B.K.In h → VRs h dv ds)
  (h : ∀ L ca env, ca.length = cs.length → env.frame = some L → env.code = zbj B.K f → zaf env L (zbo ps ++ rest) gs (zcl cs ca) [] →
   Ex B (A.deeper env) env ((L, .ns (zcD ps (as ++ ds) ++ rest.map fun x => (x, none))) :: (zbQ cs (as ++ ds) ca ++ l)) bd (zbs Φ) (Xp (A.deeper env) env Ψ)) : Fn B A (.ref f) as l Φ Ψ :=
 zno F.at_ F.bd F.ok hds hl hr (fun s vs X e => Fb s vs X (e.trans hn.symm)) h
theorem zbP {B : zan} {A : Around} {l : Led} {Ψ : XQ} {Φ : EQ} {f : Addr} {ps : List (Str × Bool)} {rest gs : List Str} {cs : List (Str × Option Nat)} {nd : Nat} {dv : List Value} {as ds : List AV} {bd : List Stmt} (F : zbA B.K f ps rest cs gs bd) (Fb : za5 B.K f (ps.map (·.1)) nd dv) (hn : nd = as.length) (hr : A.depth < recursionLimit) (hl : ps.length = as.length + ds.length) (hds : ∀ h, B.K.In h → VRs h dv ds)
  (h : ∀ L ca env, ca.length = cs.length → env.frame = some L → env.code = zbj B.K f → zaf env L (zbo ps ++ rest) gs (zcl cs ca) [] →
   Ex B (A.deeper env) env ((L, .ns (zcD ps (as ++ ds) ++ rest.map fun x => (x, none))) :: (zbQ cs (as ++ ds) ca ++ l)) bd (zbs Φ) (fun _ _ => False)) : Fn B A (.ref f) as l Φ Ψ :=
 znT F Fb hn hr hl hds fun L ca env h1 h2 h3 Fo => .mk <| Tr.mono (h L ca env h1 h2 h3 Fo).go (fun _ _ q => q) fun _ _ q => q.elim
noncomputable def zp2 : List Stmt := atB (atB top 2) 0
noncomputable def zrk : List Stmt := atB top 7
noncomputable def zrj : List Stmt := atB top 9
noncomputable def zpC : List Stmt := atB top 10
noncomputable def zpB : List Stmt := atB top 14
noncomputable def zpA : List Stmt := atB (atB top 15) 0
noncomputable def zpz : List Stmt := atB (atB top 15) 1
noncomputable def zpy : List Stmt := atB top 16
noncomputable def zpx : List Stmt := atB top 42
noncomputable def zpw : List Stmt := atB top 44
noncomputable def zpv : List Stmt := atB (atB top 45) 0
noncomputable def zpu : List Stmt := atB (atB top 45) 1
noncomputable def zpt : List Stmt := atB (atB top 45) 2
noncomputable def zps : List Stmt := atB (atB top 45) 3
noncomputable def zpr : List Stmt := atB (atB top 45) 4
noncomputable def zpq : List Stmt := atB (atB top 45) 5
noncomputable def zpp : List Stmt := atB (atB top 45) 6
noncomputable def zpo : List Stmt := atB (atB top 52) 0
noncomputable def zpn : List Stmt := atB (atB top 52) 1
noncomputable def zpm : List Stmt := atB top 53
noncomputable def zpl : List Stmt := atB top 54
noncomputable def zpk : List Stmt := atB (atB top 56) 0
noncomputable def zpj : List Stmt := atB (atB top 56) 1
noncomputable def zpi : List Stmt := atB (atB top 56) 2
noncomputable def zph : List Stmt := atB (atB top 56) 3
noncomputable def zpg : List Stmt := atB top 58
noncomputable def zpf : List Stmt := atB (atB top 60) 0
noncomputable def zpe : List Stmt := atB (atB top 61) 0
noncomputable def zpd : List Stmt := atB (atB top 61) 1
noncomputable def zpc : List Stmt := atB (atB top 61) 3
noncomputable def zpb : List Stmt := atB (atB top 61) 4
noncomputable def zpa : List Stmt := atB (atB top 67) 0
noncomputable def zo9 : List Stmt := atB top 68
noncomputable def zo8 : List Stmt := atB top 69
noncomputable def zo7 : List Stmt := atB (atB top 70) 0
noncomputable def zo6 : List Stmt := atB (atB top 70) 1
noncomputable def zo5 : List Stmt := atB (atB top 70) 2
noncomputable def znD : List Stmt := atB top 72
noncomputable def zo4 : List Stmt := atB top 73
noncomputable def zo3 : List Stmt := atB top 74
noncomputable def zo2 : List Stmt := atB top 75
noncomputable def zo1 : List Stmt := atB top 76
noncomputable def zo0 : List Stmt := atB top 77
noncomputable def zoZ : List Stmt := atB top 78
noncomputable def zoY : List Stmt := atB top 79
noncomputable def zoX : List Stmt := atB top 80
noncomputable def zoW : List Stmt := atB top 81
noncomputable def zoV : List Stmt := atB top 82
noncomputable def zoU : List Stmt := atB top 83
noncomputable def zoT : List Stmt := atB top 84
noncomputable def zoS : List Stmt := atB top 85
noncomputable def zoR : List Stmt := atB top 86
noncomputable def zoQ : List Stmt := atB top 87
noncomputable def zql (l : List (Frag → Prop)) : Nat → Frag → Prop := List.rec (fun _ _ => True) (fun p _ ih n K => Nat.rec (p K) (fun m _ => ih m K) n) l
inductive zag (K : Frag) : List (Frag → Prop) → Prop
 | nil : zag K []
 | cons {p : Frag → Prop} {r : List (Frag → Prop)} : p K → zag K r → zag K (p :: r)
theorem zag.at {K : Frag} {l : List (Frag → Prop)} (h : zag K l) : ∀ i, zql l i K := zag.rec (motive := fun l _ => ∀ i, zql l i K) (fun _ => trivial) (fun p _ ih i => match i with
 | 0 => p
 | i + 1 => ih i) h
noncomputable def KFl : List (Frag → Prop) := [
 (fun K => zbA K 36 [("self", false), ("message", false), ("spot", false)] [] [] ["Exception"] zp2),
 (fun K => za5 K 36 ["self", "message", "spot"] 3 []),
 (fun K => za5 K 36 ["self", "message", "spot"] 2 [zd5 K 29 0]),
 (fun K => zmB (zd5 K 29 0) (.int 0) = true),
 (fun K => zbA K 85 [("world", false), ("T", false)] [] [] [] zrk),
 (fun K => za5 K 85 ["world", "T"] 2 []),
 (fun K => zbA K 97 [("world", false), ("T", false)] ["left", "met", "here", "inner"] [] ["underlying_of"] zrj),
 (fun K => za5 K 97 ["world", "T"] 2 []),
 (fun K => zbA K 102 [("world", true), ("T", false)] ["inner"] [("world", some 0)] ["underlying_of", "zero_value", "tuple"] zpC),
 (fun K => za5 K 102 ["world", "T"] 2 []),
 (fun K => zbA K 107 [("world", false), ("T", false)] ["inner"] [] ["underlying_of", "max"] zpB),
 (fun K => za5 K 107 ["world", "T"] 2 []),
 (fun K => zbA K 121 [("self", false), ("world", false), ("T", false), ("many", false)] [] [] ["types_within"] zpA),
 (fun K => za5 K 121 ["self", "world", "T", "many"] 4 []),
 (fun K => zbA K 128 [("self", false), ("told", false), ("many", false)] [] [] ["max"] zpz),
 (fun K => za5 K 128 ["self", "told", "many"] 3 []),
 (fun K => zbA K 142 [("world", false), ("T", false), ("known", false), ("spot", false)] ["way", "here", "inner", "many", "told"] [] ["SizeRow", "len", "MOST_LEVELS_sizes", "TypeFault", "max", "MOST_WITHIN"] zpy),
 (fun K => za5 K 142 ["world", "T", "known", "spot"] 4 []),
 (fun K => zbA K 253 [("world", false), ("scope", false), ("package", false), ("name", false), ("spot", false), ("is_wanted", false)] ["entry", "around"] [] ["exported_entry", "NameFault", "TypeFault"] zpx),
 (fun K => za5 K 253 ["world", "scope", "package", "name", "spot", "is_wanted"] 5 [zd5 K 246 0]),
 (fun K => zmB (zd5 K 246 0) (.bool true) = true),
 (fun K => zbA K 266 [("told", false), ("spot", false)] ["left", "many", "here"] [("level", none)] ["isinstance", "tuple", "MOST_PARTS", "MOST_LEVELS_type_exprs", "TypeFault"] zpw),
 (fun K => za5 K 266 ["told", "spot"] 2 []),
 (fun K => zbA K 280 [("self", false), ("world", false), ("scope", false), ("const_reader", false)] [] [] [] zpv),
 (fun K => za5 K 280 ["self", "world", "scope", "const_reader"] 4 []),
 (fun K => zbA K 287 [("self", false), ("typex", false)] ["kind", "spot"] [] ["type_entry"] zpu),
 (fun K => za5 K 287 ["self", "typex"] 2 []),
 (fun K => zbA K 292 [("self", true), ("typexes", false)] [] [("self", some 0)] ["tuple"] zpt),
 (fun K => za5 K 292 ["self", "typexes"] 2 []),
 (fun K => zbA K 299 [("self", false), ("expr", false)] ["told", "value"] [] ["isinstance", "bool", "int", "MOST_LENGTH", "TypeFault"] zps),
 (fun K => za5 K 299 ["self", "expr"] 2 []),
 (fun K => zbA K 306 [("self", false), ("typex", false)] ["told"] [] [] zpr),
 (fun K => za5 K 306 ["self", "typex"] 2 []),
 (fun K => zbA K 313 [("self", false), ("typex", false)] ["rows", "names", "name", "inner", "is_embedded", "told"] [] ["NameFault", "tuple"] zpq),
 (fun K => za5 K 313 ["self", "typex"] 2 []),
 (fun K => zbA K 320 [("self", false), ("told", false), ("spot", false)] [] [] [] zpp),
 (fun K => za5 K 320 ["self", "told", "spot"] 3 []),
 (fun K => zbA K 351 [("self", false), ("world", false), ("package", false), ("scope", false), ("iota", false)] [] [] [] zpo),
 (fun K => za5 K 351 ["self", "world", "package", "scope", "iota"] 5 []),
 (fun K => zbA K 358 [("self", false), ("expr", false)] ["kind", "spot"] [] ["UNTYPED_INT", "UNTYPED_RUNE", "UNTYPED_TEXT", "ConstFault"] zpn),
 (fun K => za5 K 358 ["self", "expr"] 2 []),
 (fun K => zbA K 436 [("world", false), ("package", false), ("scope", false), ("expr", false), ("iota", false)] [] [] ["ConstReader"] zpm),
 (fun K => za5 K 436 ["world", "package", "scope", "expr", "iota"] 4 [zd5 K 429 0]),
 (fun K => zmB (zd5 K 429 0) (.none) = true),
 (fun K => zbA K 443 [("world", true), ("package", true), ("scope", true), ("typex", false)] ["told"] [("scope", some 2), ("package", some 1), ("world", some 0)] ["TypeReader", "want_few_parts"] zpl),
 (fun K => za5 K 443 ["world", "package", "scope", "typex"] 4 []),
 (fun K => zbA K 457 [("self", false), ("world", false)] [] [] [] zpk),
 (fun K => za5 K 457 ["self", "world"] 2 []),
 (fun K => zbA K 464 [("self", false)] ["path"] [] ["sorted"] zpj),
 (fun K => za5 K 464 ["self"] 1 []),
 (fun K => zbA K 471 [("self", false), ("told", false)] ["way", "path", "left", "inner"] [] [] zpi),
 (fun K => za5 K 471 ["self", "told"] 2 []),
 (fun K => zbA K 476 [("self", false), ("told", false)] [] [] ["reversed", "TypeFault"] zph),
 (fun K => za5 K 476 ["self", "told"] 2 []),
 (fun K => zbA K 497 [("world", false)] ["keys", "parts", "greats", "known", "told", "spot"] [] ["is_comparable", "TypeFault", "is_part", "size_of"] zpg),
 (fun K => za5 K 497 ["world"] 1 []),
 (fun K => zbA K 511 [("self", false), ("name", false), ("entry", false), ("spot", false), ("owner", false), ("is_checked", false)] [] [] [] zpf),
 (fun K => za5 K 511 ["self", "name", "entry", "spot", "owner", "is_checked"] 6 []),
 (fun K => zbA K 533 [("self", false), ("outer", false), ("owner", false)] [] [] [] zpe),
 (fun K => za5 K 533 ["self", "outer", "owner"] 3 []),
 (fun K => za5 K 533 ["self", "outer", "owner"] 2 [zd5 K 526 0]),
 (fun K => zmB (zd5 K 526 0) (.none) = true),
 (fun K => zbA K 541 [("self", false), ("name", false), ("entry", false), ("spot", false), ("is_checked", false)] [] [] ["NameFault", "ScopeRow"] zpd),
 (fun K => za5 K 541 ["self", "name", "entry", "spot", "is_checked"] 4 [zd5 K 534 0]),
 (fun K => zmB (zd5 K 534 0) (.bool false) = true),
 (fun K => zbA K 555 [("self", false), ("name", false)] ["here"] [] [] zpc),
 (fun K => za5 K 555 ["self", "name"] 2 []),
 (fun K => zbA K 563 [("self", false), ("name", false), ("spot", false)] ["found"] [] ["NameFault"] zpb),
 (fun K => za5 K 563 ["self", "name", "spot"] 2 [zd5 K 556 0]),
 (fun K => zmB (zd5 K 556 0) (.none) = true),
 (fun K => zbA K 611 [("self", false), ("path", false), ("package", false), ("underlying", false), ("methods", false)] [] [] [] zpa),
 (fun K => za5 K 611 ["self", "path", "package", "underlying", "methods"] 5 []),
 (fun K => zbA K 625 [] ["text", "adding", "gate", "group", "told", "locks", "waits"] [] ["PLAIN", "NamedRow"] zo9),
 (fun K => za5 K 625 [] 0 []),
 (fun K => zbA K 632 [] ["found", "kind", "name"] [] ["Scope", "INT_KINDS", "ERROR", "BUILTINS"] zo8),
 (fun K => za5 K 632 [] 0 []),
 (fun K => zbA K 647 [("self", false), ("packages", false)] [] [] ["known_rows"] zo7),
 (fun K => za5 K 647 ["self", "packages"] 1 [zd5 K 640 0]),
 (fun K => zmB (zd5 K 640 0) (.none) = true),
 (fun K => zbA K 654 [("self", false), ("told", false)] ["row"] [] ["NameFault", "TypeFault"] zo6),
 (fun K => za5 K 654 ["self", "told"] 2 []),
 (fun K => zbA K 661 [("self", false), ("entry", false)] [] [] [] zo5),
 (fun K => za5 K 661 ["self", "entry"] 2 []),
 (fun K => zbA K 675 [("script", false), ("k", false)] ["cell", "great", "mixed"] [] ["len", "max", "int"] znD),
 (fun K => za5 K 675 ["script", "k"] 2 []),
 (fun K => zbA K 682 [("source", false), ("top", false)] ["drawn"] [] [] zo4),
 (fun K => za5 K 682 ["source", "top"] 2 []),
 (fun K => zbA K 689 [("source", false), ("things", false)] [] [] ["_law_take", "len"] zo3),
 (fun K => za5 K 689 ["source", "things"] 2 []),
 (fun K => zbA K 694 [("some", false)] ["parts", "levels"] [] ["max", "sum"] zo2),
 (fun K => za5 K 694 ["some"] 1 []),
 (fun K => zbA K 701 [("many", false), ("row", false)] [] [] ["_law_made", "max"] zo1),
 (fun K => za5 K 701 ["many", "row"] 2 []),
 (fun K => zbA K 708 [("source", false), ("rows", false)] ["way", "k", "there", "leaf", "row"] [] ["_law_take", "len", "str", "_law_one", "_law_array"] zo0),
 (fun K => za5 K 708 ["source", "rows"] 2 []),
 (fun K => zbA K 713 [("source", true)] ["turn", "some", "T"] [("rows", none), ("source", some 0)] ["range", "_law_take", "_law_array", "_law_one", "_law_inner", "tuple", "enumerate", "_law_made"] zoZ),
 (fun K => za5 K 713 ["source"] 1 []),
 (fun K => zbA K 720 [("mark", false), ("types", false)] ["world", "k", "T"] [] ["World", "enumerate", "str", "NamedRow"] zoY),
 (fun K => za5 K 720 ["mark", "types"] 2 []),
 (fun K => zbA K 727 [("world", false), ("path", false), ("known", false)] ["fault"] [] ["size_of", "TypeFault"] zoX),
 (fun K => za5 K 727 ["world", "path", "known"] 3 []),
 (fun K => zbA K 734 [("call", false)] ["fault"] [] ["TypeFault"] zoW),
 (fun K => za5 K 734 ["call"] 1 []),
 (fun K => zbA K 739 [("V", false)] [] [] ["isinstance", "tuple", "_law_made"] zoV),
 (fun K => za5 K 739 ["V"] 1 []),
 (fun K => zbA K 744 [("source", false)] ["rows", "shared", "due", "places", "k", "path", "told"] [("world", none)] ["_law_rows", "_law_world", "_law_spot", "list", "range", "len", "_law_take", "str", "_law_told", "_law_counted", "zero_value"] zoU),
 (fun K => za5 K 744 ["source"] 1 []),
 (fun K => zbA K 749 [] ["types", "k", "shared", "told", "path"] [("world", none)] ["range", "_law_world", "str", "_law_told", "_law_spot"] zoT),
 (fun K => za5 K 749 [] 0 []),
 (fun K => zbA K 754 [] ["types", "k", "there", "told"] [("world", none)] ["range", "str", "_law_world"] zoS),
 (fun K => za5 K 754 [] 0 []),
 (fun K => zbA K 759 [("source", true)] ["one", "two", "whole", "text", "written", "told", "due"] [("world", none), ("source", some 0)] ["range", "World", "_law_one", "type_of", "Scope", "universe", "max", "_law_spot"] zoR),
 (fun K => za5 K 759 ["source"] 1 []),
 (fun K => zbA K 766 [("script", false)] ["source"] [] ["_law_chain_right", "_law_doubled_right", "_law_pool", "_law_rows_right", "_law_late_right"] zoQ),
 (fun K => za5 K 766 ["script"] 1 []),
 (fun K => keepIn K (.ref 682) = true),
 (fun K => nsIn K mainGlobals "_law_take" = some (some (.ref 682))),
 (fun K => nsIn K mainGlobals "len" = some none),
 (fun K => nsIn K mainGlobals "max" = some none),
 (fun K => nsIn K mainGlobals "int" = some none),
 (fun K => nsIn K mainGlobals "sum" = some none),
 (fun K => keepIn K (.ref 694) = true),
 (fun K => nsIn K mainGlobals "_law_made" = some (some (.ref 694))),
 (fun K => keepIn K (.ref 689) = true),
 (fun K => nsIn K mainGlobals "_law_one" = some (some (.ref 689))),
 (fun K => keepIn K (.ref 701) = true),
 (fun K => nsIn K mainGlobals "_law_array" = some (some (.ref 701))),
 (fun K => nsIn K mainGlobals "str" = some none),
 (fun K => keepIn K (.ref 708) = true),
 (fun K => nsIn K mainGlobals "_law_inner" = some (some (.ref 708))),
 (fun K => nsIn K mainGlobals "range" = some none),
 (fun K => nsIn K mainGlobals "tuple" = some none),
 (fun K => nsIn K mainGlobals "enumerate" = some none),
 (fun K => zaj K 664 = true),
 (fun K => zaj K 614 = true),
 (fun K => zaj K 131 = true),
 (fun K => findIn K (.ref 664) "named" = some none),
 (fun K => findIn K (.ref 664) "base_of" = some (some (.ref 654))),
 (fun K => isFn K (.ref 654) = true),
 (fun K => keepIn K (.ref 654) = true),
 (fun K => findIn K (.ref 614) "underlying" = some none),
 (fun K => keepIn K (.ref 85) = true),
 (fun K => nsIn K mainGlobals "underlying_of" = some (some (.ref 85))),
 (fun K => keepIn K (.ref 107) = true),
 (fun K => nsIn K mainGlobals "types_within" = some (some (.ref 107))),
 (fun K => makesIn K 131 = true),
 (fun K => findIn K (.ref 131) "__init__" = some (some (.ref 121))),
 (fun K => typeIn K (.ref 121) = some (.type "function")),
 (fun K => keepIn K (.ref 131) = true),
 (fun K => nsIn K mainGlobals "SizeRow" = some (some (.ref 131))),
 (fun K => findIn K (.ref 131) "take_in" = some (some (.ref 128))),
 (fun K => isFn K (.ref 128) = true),
 (fun K => keepIn K (.ref 128) = true),
 (fun K => ∀ x ∈ (["T", "many", "left", "parts", "levels"] : List Str), takerIn K 131 x = some none),
 (fun K => ∀ x ∈ (["T", "many", "left", "parts", "levels"] : List Str), findIn K (.ref 131) x = some none),
 (fun K => zd3 K 64 = true),
 (fun K => zgP K 64 = true),
 (fun K => findIn K (.ref 64) "__init__" = some (some (.ref 36))),
 (fun K => typeIn K (.ref 36) = some (.type "function")),
 (fun K => keepIn K (.ref 64) = true),
 (fun K => nsIn K mainGlobals "TypeFault" = some (some (.ref 64))),
 (fun K => findIn K (.ref 64) "message" = some none),
 (fun K => findIn K (.ref 64) "spot" = some none),
 (fun K => nsIn K mainGlobals "Exception" = some none),
 (fun K => zeS K "MOST_LEVELS_sizes" 60 = true),
 (fun K => zeS K "MOST_WITHIN" 1048576 = true),
 (fun K => nsIn K mainGlobals "size_of" = some (some (.ref 142))),
 (fun K => keepIn K (.ref 142) = true),
 (fun K => zaj K 479 = true),
 (fun K => findIn K (.ref 479) "begun" = some (some (.ref 476))),
 (fun K => isFn K (.ref 476) = true),
 (fun K => keepIn K (.ref 476) = true),
 (fun K => findIn K (.ref 479) "look" = some (some (.ref 471))),
 (fun K => isFn K (.ref 471) = true),
 (fun K => keepIn K (.ref 471) = true),
 (fun K => findIn K (.ref 479) "look_at_all" = some (some (.ref 464))),
 (fun K => isFn K (.ref 464) = true),
 (fun K => keepIn K (.ref 464) = true),
 (fun K => makesIn K 479 = true),
 (fun K => findIn K (.ref 479) "__init__" = some (some (.ref 457))),
 (fun K => typeIn K (.ref 457) = some (.type "function")),
 (fun K => keepIn K (.ref 479) = true),
 (fun K => nsIn K mainGlobals "Holding" = some (some (.ref 479))),
 (fun K => nsIn K mainGlobals "reversed" = some none),
 (fun K => nsIn K mainGlobals "sorted" = some none),
 (fun K => ∀ x ∈ (["world", "is_open", "done"] : List Str), findIn K (.ref 479) x = some none),
 (fun K => ∀ x ∈ (["world", "is_open", "done"] : List Str), takerIn K 479 x = some none),
 (fun K => zeq K "PLAIN" zoq),
 (fun K => makesIn K 614 = true),
 (fun K => findIn K (.ref 614) "__init__" = some (some (.ref 611))),
 (fun K => typeIn K (.ref 611) = some (.type "function")),
 (fun K => keepIn K (.ref 614) = true),
 (fun K => nsIn K mainGlobals "NamedRow" = some (some (.ref 614))),
 (fun K => ∀ x ∈ (["path", "package", "underlying", "methods"] : List Str), takerIn K 614 x = some none),
 (fun K => makesIn K 664 = true),
 (fun K => findIn K (.ref 664) "__init__" = some (some (.ref 647))),
 (fun K => typeIn K (.ref 647) = some (.type "function")),
 (fun K => keepIn K (.ref 664) = true),
 (fun K => nsIn K mainGlobals "World" = some (some (.ref 664))),
 (fun K => keepIn K (.ref 625) = true),
 (fun K => nsIn K mainGlobals "known_rows" = some (some (.ref 625))),
 (fun K => ∀ x ∈ zar, takerIn K 664 x = some none),
 (fun K => ∀ x ∈ zar, findIn K (.ref 664) x = some none),
 (fun K => findIn K (.ref 664) "named" = some none),
 (fun K => nsIn K mainGlobals "_law_world" = some (some (.ref 720))),
 (fun K => keepIn K (.ref 720) = true),
 (fun K => nsIn K mainGlobals "_law_told" = some (some (.ref 727))),
 (fun K => keepIn K (.ref 727) = true),
 (fun K => nsIn K mainGlobals "_law_spot" = some (some (.ref 734))),
 (fun K => keepIn K (.ref 734) = true),
 (fun K => zbj K 749 = .ref 748),
 (fun K => nsIn K mainGlobals "_law_counted" = some (some (.ref 739))),
 (fun K => keepIn K (.ref 739) = true),
 (fun K => nsIn K mainGlobals "isinstance" = some none),
 (fun K => nsIn K mainGlobals "zero_value" = some (some (.ref 102))),
 (fun K => keepIn K (.ref 102) = true),
 (fun K => zbj K 744 = .ref 743),
 (fun K => nsIn K mainGlobals "_law_rows" = some (some (.ref 713))),
 (fun K => keepIn K (.ref 713) = true),
 (fun K => nsIn K mainGlobals "list" = some none),
 (fun K => makesIn K 514 = true),
 (fun K => findIn K (.ref 514) "__init__" = some (some (.ref 511))),
 (fun K => typeIn K (.ref 511) = some (.type "function")),
 (fun K => keepIn K (.ref 514) = true),
 (fun K => zaj K 514 = true),
 (fun K => makesIn K 587 = true),
 (fun K => findIn K (.ref 587) "__init__" = some (some (.ref 533))),
 (fun K => typeIn K (.ref 533) = some (.type "function")),
 (fun K => keepIn K (.ref 587) = true),
 (fun K => zaj K 587 = true),
 (fun K => nsIn K mainGlobals "ScopeRow" = some (some (.ref 514))),
 (fun K => nsIn K mainGlobals "Scope" = some (some (.ref 587))),
 (fun K => findIn K (.ref 587) "declare" = some (some (.ref 541))),
 (fun K => isFn K (.ref 541) = true),
 (fun K => keepIn K (.ref 541) = true),
 (fun K => findIn K (.ref 587) "row" = some (some (.ref 555))),
 (fun K => isFn K (.ref 555) = true),
 (fun K => keepIn K (.ref 555) = true),
 (fun K => findIn K (.ref 587) "find" = some (some (.ref 563))),
 (fun K => isFn K (.ref 563) = true),
 (fun K => keepIn K (.ref 563) = true),
 (fun K => ∀ x ∈ (["name", "entry", "spot", "owner", "is_checked", "is_used"] : List Str), takerIn K 514 x = some none),
 (fun K => ∀ x ∈ (["name", "entry", "spot", "owner", "is_checked", "is_used"] : List Str), findIn K (.ref 514) x = some none),
 (fun K => ∀ x ∈ (["outer", "owner", "rows"] : List Str), takerIn K 587 x = some none),
 (fun K => ∀ x ∈ (["outer", "owner", "rows"] : List Str), findIn K (.ref 587) x = some none),
 (fun K => zeq K "INT_KINDS" (.tup (zdO.map AV.str))),
 (fun K => zeq K "BUILTINS" (.tup (zl9.map AV.str))),
 (fun K => zeq K "ERROR" (.tup [.str "named", .str "error"])),
 (fun K => findIn K (.ref 664) "settled" = some (some (.ref 661))),
 (fun K => isFn K (.ref 661) = true),
 (fun K => keepIn K (.ref 661) = true),
 (fun K => nsIn K mainGlobals "type_entry" = some (some (.ref 253))),
 (fun K => keepIn K (.ref 253) = true),
 (fun K => nsIn K mainGlobals "const_of" = some (some (.ref 436))),
 (fun K => keepIn K (.ref 436) = true),
 (fun K => nsIn K mainGlobals "type_of" = some (some (.ref 443))),
 (fun K => keepIn K (.ref 443) = true),
 (fun K => nsIn K mainGlobals "want_few_parts" = some (some (.ref 266))),
 (fun K => keepIn K (.ref 266) = true),
 (fun K => makesIn K 424 = true),
 (fun K => findIn K (.ref 424) "__init__" = some (some (.ref 351))),
 (fun K => typeIn K (.ref 351) = some (.type "function")),
 (fun K => keepIn K (.ref 424) = true),
 (fun K => zaj K 424 = true),
 (fun K => nsIn K mainGlobals "ConstReader" = some (some (.ref 424))),
 (fun K => findIn K (.ref 424) "read" = some (some (.ref 358))),
 (fun K => isFn K (.ref 358) = true),
 (fun K => keepIn K (.ref 358) = true),
 (fun K => makesIn K 328 = true),
 (fun K => findIn K (.ref 328) "__init__" = some (some (.ref 280))),
 (fun K => typeIn K (.ref 280) = some (.type "function")),
 (fun K => keepIn K (.ref 328) = true),
 (fun K => zaj K 328 = true),
 (fun K => nsIn K mainGlobals "TypeReader" = some (some (.ref 328))),
 (fun K => findIn K (.ref 328) "read" = some (some (.ref 287))),
 (fun K => isFn K (.ref 287) = true),
 (fun K => keepIn K (.ref 287) = true),
 (fun K => findIn K (.ref 328) "all" = some (some (.ref 292))),
 (fun K => isFn K (.ref 292) = true),
 (fun K => keepIn K (.ref 292) = true),
 (fun K => findIn K (.ref 328) "length" = some (some (.ref 299))),
 (fun K => isFn K (.ref 299) = true),
 (fun K => keepIn K (.ref 299) = true),
 (fun K => findIn K (.ref 328) "key" = some (some (.ref 306))),
 (fun K => isFn K (.ref 306) = true),
 (fun K => keepIn K (.ref 306) = true),
 (fun K => findIn K (.ref 328) "struct" = some (some (.ref 313))),
 (fun K => isFn K (.ref 313) = true),
 (fun K => keepIn K (.ref 313) = true),
 (fun K => findIn K (.ref 328) "kept" = some (some (.ref 320))),
 (fun K => isFn K (.ref 320) = true),
 (fun K => keepIn K (.ref 320) = true),
 (fun K => zeq K "UNTYPED_INT" zb5),
 (fun K => nsIn K mainGlobals "bool" = some none),
 (fun K => zeS K "MOST_LENGTH" 1048576 = true),
 (fun K => ∀ x ∈ (["world", "package", "scope", "iota"] : List Str), takerIn K 424 x = some none),
 (fun K => ∀ x ∈ (["world", "package", "scope", "iota"] : List Str), findIn K (.ref 424) x = some none),
 (fun K => ∀ x ∈ (["world", "scope", "const_reader"] : List Str), takerIn K 328 x = some none),
 (fun K => ∀ x ∈ (["world", "scope", "const_reader"] : List Str), findIn K (.ref 328) x = some none),
 (fun K => zeS K "MOST_PARTS" 2000 = true),
 (fun K => zeS K "MOST_LEVELS_type_exprs" 100 = true),
 (fun K => zbj K 443 = .ref 442),
 (fun K => nsIn K mainGlobals "is_comparable" = some (some (.ref 97))),
 (fun K => keepIn K (.ref 97) = true),
 (fun K => nsIn K mainGlobals "check_late_keys" = some (some (.ref 497))),
 (fun K => keepIn K (.ref 497) = true),
 (fun K => nsIn K mainGlobals "universe" = some (some (.ref 632))),
 (fun K => keepIn K (.ref 632) = true),
 (fun K => zbj K 759 = .ref 758),
 (fun K => nsIn K mainGlobals "_law_chain_right" = some (some (.ref 749))),
 (fun K => keepIn K (.ref 749) = true),
 (fun K => nsIn K mainGlobals "_law_doubled_right" = some (some (.ref 754))),
 (fun K => keepIn K (.ref 754) = true),
 (fun K => nsIn K mainGlobals "_law_pool" = some (some (.ref 675))),
 (fun K => keepIn K (.ref 675) = true),
 (fun K => nsIn K mainGlobals "_law_rows_right" = some (some (.ref 744))),
 (fun K => keepIn K (.ref 744) = true),
 (fun K => nsIn K mainGlobals "_law_late_right" = some (some (.ref 759))),
 (fun K => keepIn K (.ref 759) = true)]
noncomputable def KF (K : Frag) : Prop := zag K KFl
theorem kg {K : Frag} (h : KF K) (i : Nat) : zql KFl i K := zag.at h i
theorem zeg {B : zan} {A : Around} {l : Led} {Ψ : XQ} {Φ : EQ} {x0 x1 x2 : AV} (hK : KF B.K) (hr : A.depth < recursionLimit)
  (h : ∀ L  env, env.frame = some L → env.code = zbj B.K 36 → zaf env L ["self", "message", "spot"] ["Exception"] [] [] → Ex B (A.deeper env) env ((L, .ns [("self", some x0), ("message", some x1), ("spot", some x2)]) :: l) zp2 (zbs Φ) (fun _ _ => False)) :
  Fn B A (.ref 36) [x0, x1, x2] l Φ Ψ := by
 refine zbP (kg hK 0) (kg hK 1) rfl hr (ds := []) rfl (fun _ _ => .nil) (fun L ca env hl hf hc Fo => ?_)
 obtain rfl := List.eq_nil_of_length_eq_zero hl; exact h L env hf hc Fo
theorem zdL {B : zan} {A : Around} {l : Led} {Ψ : XQ} {Φ : EQ} {x0 x1 : AV} (hK : KF B.K) (hr : A.depth < recursionLimit)
  (h : ∀ L  env, env.frame = some L → env.code = zbj B.K 36 → zaf env L ["self", "message", "spot"] ["Exception"] [] [] → Ex B (A.deeper env) env ((L, .ns [("self", some x0), ("message", some x1), ("spot", some (.int 0))]) :: l) zp2 (zbs Φ) (fun _ _ => False)) :
  Fn B A (.ref 36) [x0, x1] l Φ Ψ := by
 refine zbP (kg hK 0) (kg hK 2) rfl hr (ds := [.int 0]) rfl (fun _ _ => .cons (zc5 (kg hK 3)) .nil) (fun L ca env hl hf hc Fo => ?_)
 obtain rfl := List.eq_nil_of_length_eq_zero hl; exact h L env hf hc Fo
theorem zeA {B : zan} {A : Around} {l : Led} {Ψ : XQ} {Φ : EQ} {x0 x1 : AV} (hK : KF B.K) (hr : A.depth < recursionLimit)
  (h : ∀ L  env, env.frame = some L → env.code = zbj B.K 85 → zaf env L ["world", "T"] [] [] [] → Ex B (A.deeper env) env ((L, .ns [("world", some x0), ("T", some x1)]) :: l) zrk (zbs Φ) (fun _ _ => False)) :
  Fn B A (.ref 85) [x0, x1] l Φ Ψ := by
 refine zbP (kg hK 4) (kg hK 5) rfl hr (ds := []) rfl (fun _ _ => .nil) (fun L ca env hl hf hc Fo => ?_)
 obtain rfl := List.eq_nil_of_length_eq_zero hl; exact h L env hf hc Fo
theorem zeB {B : zan} {A : Around} {l : Led} {Ψ : XQ} {Φ : EQ} {x0 x1 : AV} (hK : KF B.K) (hr : A.depth < recursionLimit)
  (h : ∀ L  env, env.frame = some L → env.code = zbj B.K 97 → zaf env L ["world", "T", "left", "met", "here", "inner"] ["underlying_of"] [] [] → Ex B (A.deeper env) env ((L, .ns [("world", some x0), ("T", some x1), ("left", none), ("met", none), ("here", none), ("inner", none)]) :: l) zrj (zbs Φ) (fun _ _ => False)) :
  Fn B A (.ref 97) [x0, x1] l Φ Ψ := by
 refine zbP (kg hK 6) (kg hK 7) rfl hr (ds := []) rfl (fun _ _ => .nil) (fun L ca env hl hf hc Fo => ?_)
 obtain rfl := List.eq_nil_of_length_eq_zero hl; exact h L env hf hc Fo
theorem zgD {B : zan} {A : Around} {l : Led} {Ψ : XQ} {Φ : EQ} {x0 x1 : AV} (hK : KF B.K) (hr : A.depth < recursionLimit)
  (h : ∀ L c0 env, env.frame = some L → env.code = zbj B.K 102 → zaf env L ["T", "inner"] ["underlying_of", "zero_value", "tuple"] [("world", c0)] [] → Ex B (A.deeper env) env ((L, .ns [("T", some x1), ("inner", none)]) :: (c0, .cell (some x0)) :: l) zpC (zbs Φ) (fun _ _ => False)) :
  Fn B A (.ref 102) [x0, x1] l Φ Ψ := by
 refine zbP (kg hK 8) (kg hK 9) rfl hr (ds := []) rfl (fun _ _ => .nil) (fun L ca env hl hf hc Fo => ?_)
 obtain ⟨c0, rfl⟩ := zk3 hl; exact h L c0 env hf hc Fo
theorem zfe {B : zan} {A : Around} {l : Led} {Ψ : XQ} {Φ : EQ} {x0 x1 : AV} (hK : KF B.K) (hr : A.depth < recursionLimit)
  (h : ∀ L  env, env.frame = some L → env.code = zbj B.K 107 → zaf env L ["world", "T", "inner"] ["underlying_of", "max"] [] [] → Ex B (A.deeper env) env ((L, .ns [("world", some x0), ("T", some x1), ("inner", none)]) :: l) zpB (zbs Φ) (fun _ _ => False)) :
  Fn B A (.ref 107) [x0, x1] l Φ Ψ := by
 refine zbP (kg hK 10) (kg hK 11) rfl hr (ds := []) rfl (fun _ _ => .nil) (fun L ca env hl hf hc Fo => ?_)
 obtain rfl := List.eq_nil_of_length_eq_zero hl; exact h L env hf hc Fo
theorem zff {B : zan} {A : Around} {l : Led} {Ψ : XQ} {Φ : EQ} {x0 x1 x2 x3 : AV} (hK : KF B.K) (hr : A.depth < recursionLimit)
  (h : ∀ L  env, env.frame = some L → env.code = zbj B.K 121 → zaf env L ["self", "world", "T", "many"] ["types_within"] [] [] → Ex B (A.deeper env) env ((L, .ns [("self", some x0), ("world", some x1), ("T", some x2), ("many", some x3)]) :: l) zpA (zbs Φ) (fun _ _ => False)) :
  Fn B A (.ref 121) [x0, x1, x2, x3] l Φ Ψ := by
 refine zbP (kg hK 12) (kg hK 13) rfl hr (ds := []) rfl (fun _ _ => .nil) (fun L ca env hl hf hc Fo => ?_)
 obtain rfl := List.eq_nil_of_length_eq_zero hl; exact h L env hf hc Fo
theorem zdK {B : zan} {A : Around} {l : Led} {Ψ : XQ} {Φ : EQ} {x0 x1 x2 : AV} (hK : KF B.K) (hr : A.depth < recursionLimit)
  (h : ∀ L  env, env.frame = some L → env.code = zbj B.K 128 → zaf env L ["self", "told", "many"] ["max"] [] [] → Ex B (A.deeper env) env ((L, .ns [("self", some x0), ("told", some x1), ("many", some x2)]) :: l) zpz (zbs Φ) (fun _ _ => False)) :
  Fn B A (.ref 128) [x0, x1, x2] l Φ Ψ := by
 refine zbP (kg hK 14) (kg hK 15) rfl hr (ds := []) rfl (fun _ _ => .nil) (fun L ca env hl hf hc Fo => ?_)
 obtain rfl := List.eq_nil_of_length_eq_zero hl; exact h L env hf hc Fo
theorem zj6 {B : zan} {A : Around} {l : Led} {Ψ : XQ} {Φ : EQ} {x0 x1 x2 x3 : AV} (hK : KF B.K) (hr : A.depth < recursionLimit)
  (h : ∀ L  env, env.frame = some L → env.code = zbj B.K 142 → zaf env L ["world", "T", "known", "spot", "way", "here", "inner", "many", "told"] ["SizeRow", "len", "MOST_LEVELS_sizes", "TypeFault", "max", "MOST_WITHIN"] [] [] → Ex B (A.deeper env) env ((L, .ns [("world", some x0), ("T", some x1), ("known", some x2), ("spot", some x3), ("way", none), ("here", none), ("inner", none), ("many", none), ("told", none)]) :: l) zpy (zbs Φ) (Xp (A.deeper env) env Ψ)) :
  Fn B A (.ref 142) [x0, x1, x2, x3] l Φ Ψ := by
 refine znT (kg hK 16) (kg hK 17) rfl hr (ds := []) rfl (fun _ _ => .nil) (fun L ca env hl hf hc Fo => ?_)
 obtain rfl := List.eq_nil_of_length_eq_zero hl; exact h L env hf hc Fo
theorem zgE {B : zan} {A : Around} {l : Led} {Ψ : XQ} {Φ : EQ} {x0 x1 x2 x3 x4 : AV} (hK : KF B.K) (hr : A.depth < recursionLimit)
  (h : ∀ L  env, env.frame = some L → env.code = zbj B.K 253 → zaf env L ["world", "scope", "package", "name", "spot", "is_wanted", "entry", "around"] ["exported_entry", "NameFault", "TypeFault"] [] [] → Ex B (A.deeper env) env ((L, .ns [("world", some x0), ("scope", some x1), ("package", some x2), ("name", some x3), ("spot", some x4), ("is_wanted", some (.bool true)), ("entry", none), ("around", none)]) :: l) zpx (zbs Φ) (fun _ _ => False)) :
  Fn B A (.ref 253) [x0, x1, x2, x3, x4] l Φ Ψ := by
 refine zbP (kg hK 18) (kg hK 19) rfl hr (ds := [.bool true]) rfl (fun _ _ => .cons (zc5 (kg hK 20)) .nil) (fun L ca env hl hf hc Fo => ?_)
 obtain rfl := List.eq_nil_of_length_eq_zero hl; exact h L env hf hc Fo
theorem zec {B : zan} {A : Around} {l : Led} {Ψ : XQ} {Φ : EQ} {x0 x1 : AV} (hK : KF B.K) (hr : A.depth < recursionLimit)
  (h : ∀ L c0 env, env.frame = some L → env.code = zbj B.K 266 → zaf env L ["told", "spot", "left", "many", "here"] ["isinstance", "tuple", "MOST_PARTS", "MOST_LEVELS_type_exprs", "TypeFault"] [("level", c0)] [] → Ex B (A.deeper env) env ((L, .ns [("told", some x0), ("spot", some x1), ("left", none), ("many", none), ("here", none)]) :: (c0, .cell none) :: l) zpw (zbs Φ) (fun _ _ => False)) :
  Fn B A (.ref 266) [x0, x1] l Φ Ψ := by
 refine zbP (kg hK 21) (kg hK 22) rfl hr (ds := []) rfl (fun _ _ => .nil) (fun L ca env hl hf hc Fo => ?_)
 obtain ⟨c0, rfl⟩ := zk3 hl; exact h L c0 env hf hc Fo
theorem zdJ {B : zan} {A : Around} {l : Led} {Ψ : XQ} {Φ : EQ} {x0 x1 x2 x3 : AV} (hK : KF B.K) (hr : A.depth < recursionLimit)
  (h : ∀ L  env, env.frame = some L → env.code = zbj B.K 280 → zaf env L ["self", "world", "scope", "const_reader"] [] [] [] → Ex B (A.deeper env) env ((L, .ns [("self", some x0), ("world", some x1), ("scope", some x2), ("const_reader", some x3)]) :: l) zpv (zbs Φ) (fun _ _ => False)) :
  Fn B A (.ref 280) [x0, x1, x2, x3] l Φ Ψ := by
 refine zbP (kg hK 23) (kg hK 24) rfl hr (ds := []) rfl (fun _ _ => .nil) (fun L ca env hl hf hc Fo => ?_)
 obtain rfl := List.eq_nil_of_length_eq_zero hl; exact h L env hf hc Fo
theorem zaz {B : zan} {A : Around} {l : Led} {Ψ : XQ} {Φ : EQ} {x0 x1 : AV} (hK : KF B.K) (hr : A.depth < recursionLimit)
  (h : ∀ L  env, env.frame = some L → env.code = zbj B.K 287 → zaf env L ["self", "typex", "kind", "spot"] ["type_entry"] [] [] → Ex B (A.deeper env) env ((L, .ns [("self", some x0), ("typex", some x1), ("kind", none), ("spot", none)]) :: l) zpu (zbs Φ) (fun _ _ => False)) :
  Fn B A (.ref 287) [x0, x1] l Φ Ψ := by
 refine zbP (kg hK 25) (kg hK 26) rfl hr (ds := []) rfl (fun _ _ => .nil) (fun L ca env hl hf hc Fo => ?_)
 obtain rfl := List.eq_nil_of_length_eq_zero hl; exact h L env hf hc Fo
theorem zcn {B : zan} {A : Around} {l : Led} {Ψ : XQ} {Φ : EQ} {x0 x1 : AV} (hK : KF B.K) (hr : A.depth < recursionLimit)
  (h : ∀ L c0 env, env.frame = some L → env.code = zbj B.K 292 → zaf env L ["typexes"] ["tuple"] [("self", c0)] [] → Ex B (A.deeper env) env ((L, .ns [("typexes", some x1)]) :: (c0, .cell (some x0)) :: l) zpt (zbs Φ) (fun _ _ => False)) :
  Fn B A (.ref 292) [x0, x1] l Φ Ψ := by
 refine zbP (kg hK 27) (kg hK 28) rfl hr (ds := []) rfl (fun _ _ => .nil) (fun L ca env hl hf hc Fo => ?_)
 obtain ⟨c0, rfl⟩ := zk3 hl; exact h L c0 env hf hc Fo
theorem zcZ {B : zan} {A : Around} {l : Led} {Ψ : XQ} {Φ : EQ} {x0 x1 : AV} (hK : KF B.K) (hr : A.depth < recursionLimit)
  (h : ∀ L  env, env.frame = some L → env.code = zbj B.K 299 → zaf env L ["self", "expr", "told", "value"] ["isinstance", "bool", "int", "MOST_LENGTH", "TypeFault"] [] [] → Ex B (A.deeper env) env ((L, .ns [("self", some x0), ("expr", some x1), ("told", none), ("value", none)]) :: l) zps (zbs Φ) (fun _ _ => False)) :
  Fn B A (.ref 299) [x0, x1] l Φ Ψ := by
 refine zbP (kg hK 29) (kg hK 30) rfl hr (ds := []) rfl (fun _ _ => .nil) (fun L ca env hl hf hc Fo => ?_)
 obtain rfl := List.eq_nil_of_length_eq_zero hl; exact h L env hf hc Fo
theorem zef {B : zan} {A : Around} {l : Led} {Ψ : XQ} {Φ : EQ} {x0 x1 : AV} (hK : KF B.K) (hr : A.depth < recursionLimit)
  (h : ∀ L  env, env.frame = some L → env.code = zbj B.K 306 → zaf env L ["self", "typex", "told"] [] [] [] → Ex B (A.deeper env) env ((L, .ns [("self", some x0), ("typex", some x1), ("told", none)]) :: l) zpr (zbs Φ) (fun _ _ => False)) :
  Fn B A (.ref 306) [x0, x1] l Φ Ψ := by
 refine zbP (kg hK 31) (kg hK 32) rfl hr (ds := []) rfl (fun _ _ => .nil) (fun L ca env hl hf hc Fo => ?_)
 obtain rfl := List.eq_nil_of_length_eq_zero hl; exact h L env hf hc Fo
theorem zcY {B : zan} {A : Around} {l : Led} {Ψ : XQ} {Φ : EQ} {x0 x1 : AV} (hK : KF B.K) (hr : A.depth < recursionLimit)
  (h : ∀ L  env, env.frame = some L → env.code = zbj B.K 313 → zaf env L ["self", "typex", "rows", "names", "name", "inner", "is_embedded", "told"] ["NameFault", "tuple"] [] [] → Ex B (A.deeper env) env ((L, .ns [("self", some x0), ("typex", some x1), ("rows", none), ("names", none), ("name", none), ("inner", none), ("is_embedded", none), ("told", none)]) :: l) zpq (zbs Φ) (fun _ _ => False)) :
  Fn B A (.ref 313) [x0, x1] l Φ Ψ := by
 refine zbP (kg hK 33) (kg hK 34) rfl hr (ds := []) rfl (fun _ _ => .nil) (fun L ca env hl hf hc Fo => ?_)
 obtain rfl := List.eq_nil_of_length_eq_zero hl; exact h L env hf hc Fo
theorem zdI {B : zan} {A : Around} {l : Led} {Ψ : XQ} {Φ : EQ} {x0 x1 x2 : AV} (hK : KF B.K) (hr : A.depth < recursionLimit)
  (h : ∀ L  env, env.frame = some L → env.code = zbj B.K 320 → zaf env L ["self", "told", "spot"] [] [] [] → Ex B (A.deeper env) env ((L, .ns [("self", some x0), ("told", some x1), ("spot", some x2)]) :: l) zpp (zbs Φ) (fun _ _ => False)) :
  Fn B A (.ref 320) [x0, x1, x2] l Φ Ψ := by
 refine zbP (kg hK 35) (kg hK 36) rfl hr (ds := []) rfl (fun _ _ => .nil) (fun L ca env hl hf hc Fo => ?_)
 obtain rfl := List.eq_nil_of_length_eq_zero hl; exact h L env hf hc Fo
theorem zdg {B : zan} {A : Around} {l : Led} {Ψ : XQ} {Φ : EQ} {x0 x1 x2 x3 x4 : AV} (hK : KF B.K) (hr : A.depth < recursionLimit)
  (h : ∀ L  env, env.frame = some L → env.code = zbj B.K 351 → zaf env L ["self", "world", "package", "scope", "iota"] [] [] [] → Ex B (A.deeper env) env ((L, .ns [("self", some x0), ("world", some x1), ("package", some x2), ("scope", some x3), ("iota", some x4)]) :: l) zpo (zbs Φ) (fun _ _ => False)) :
  Fn B A (.ref 351) [x0, x1, x2, x3, x4] l Φ Ψ := by
 refine zbP (kg hK 37) (kg hK 38) rfl hr (ds := []) rfl (fun _ _ => .nil) (fun L ca env hl hf hc Fo => ?_)
 obtain rfl := List.eq_nil_of_length_eq_zero hl; exact h L env hf hc Fo
theorem zdf {B : zan} {A : Around} {l : Led} {Ψ : XQ} {Φ : EQ} {x0 x1 : AV} (hK : KF B.K) (hr : A.depth < recursionLimit)
  (h : ∀ L  env, env.frame = some L → env.code = zbj B.K 358 → zaf env L ["self", "expr", "kind", "spot"] ["UNTYPED_INT", "UNTYPED_RUNE", "UNTYPED_TEXT", "ConstFault"] [] [] → Ex B (A.deeper env) env ((L, .ns [("self", some x0), ("expr", some x1), ("kind", none), ("spot", none)]) :: l) zpn (zbs Φ) (fun _ _ => False)) :
  Fn B A (.ref 358) [x0, x1] l Φ Ψ := by
 refine zbP (kg hK 39) (kg hK 40) rfl hr (ds := []) rfl (fun _ _ => .nil) (fun L ca env hl hf hc Fo => ?_)
 obtain rfl := List.eq_nil_of_length_eq_zero hl; exact h L env hf hc Fo
theorem zi0 {B : zan} {A : Around} {l : Led} {Ψ : XQ} {Φ : EQ} {x0 x1 x2 x3 : AV} (hK : KF B.K) (hr : A.depth < recursionLimit)
  (h : ∀ L  env, env.frame = some L → env.code = zbj B.K 436 → zaf env L ["world", "package", "scope", "expr", "iota"] ["ConstReader"] [] [] → Ex B (A.deeper env) env ((L, .ns [("world", some x0), ("package", some x1), ("scope", some x2), ("expr", some x3), ("iota", some (.none))]) :: l) zpm (zbs Φ) (fun _ _ => False)) :
  Fn B A (.ref 436) [x0, x1, x2, x3] l Φ Ψ := by
 refine zbP (kg hK 41) (kg hK 42) rfl hr (ds := [.none]) rfl (fun _ _ => .cons (zc5 (kg hK 43)) .nil) (fun L ca env hl hf hc Fo => ?_)
 obtain rfl := List.eq_nil_of_length_eq_zero hl; exact h L env hf hc Fo
theorem zj7 {B : zan} {A : Around} {l : Led} {Ψ : XQ} {Φ : EQ} {x0 x1 x2 x3 : AV} (hK : KF B.K) (hr : A.depth < recursionLimit)
  (h : ∀ L c0 c1 c2 env, env.frame = some L → env.code = zbj B.K 443 → zaf env L ["typex", "told"] ["TypeReader", "want_few_parts"] [("scope", c0), ("package", c1), ("world", c2)] [] → Ex B (A.deeper env) env ((L, .ns [("typex", some x3), ("told", none)]) :: (c0, .cell (some x2)) :: (c1, .cell (some x1)) :: (c2, .cell (some x0)) :: l) zpl (zbs Φ) (fun _ _ => False)) :
  Fn B A (.ref 443) [x0, x1, x2, x3] l Φ Ψ := by
 refine zbP (kg hK 44) (kg hK 45) rfl hr (ds := []) rfl (fun _ _ => .nil) (fun L ca env hl hf hc Fo => ?_)
 obtain ⟨c0, c1, c2, rfl⟩ := zpW hl; exact h L c0 c1 c2 env hf hc Fo
theorem zfg {B : zan} {A : Around} {l : Led} {Ψ : XQ} {Φ : EQ} {x0 x1 : AV} (hK : KF B.K) (hr : A.depth < recursionLimit)
  (h : ∀ L  env, env.frame = some L → env.code = zbj B.K 457 → zaf env L ["self", "world"] [] [] [] → Ex B (A.deeper env) env ((L, .ns [("self", some x0), ("world", some x1)]) :: l) zpk (zbs Φ) (fun _ _ => False)) :
  Fn B A (.ref 457) [x0, x1] l Φ Ψ := by
 refine zbP (kg hK 46) (kg hK 47) rfl hr (ds := []) rfl (fun _ _ => .nil) (fun L ca env hl hf hc Fo => ?_)
 obtain rfl := List.eq_nil_of_length_eq_zero hl; exact h L env hf hc Fo
theorem zcx {B : zan} {A : Around} {l : Led} {Ψ : XQ} {Φ : EQ} {x0 : AV} (hK : KF B.K) (hr : A.depth < recursionLimit)
  (h : ∀ L  env, env.frame = some L → env.code = zbj B.K 464 → zaf env L ["self", "path"] ["sorted"] [] [] → Ex B (A.deeper env) env ((L, .ns [("self", some x0), ("path", none)]) :: l) zpj (zbs Φ) (Xp (A.deeper env) env Ψ)) :
  Fn B A (.ref 464) [x0] l Φ Ψ := by
 refine znT (kg hK 48) (kg hK 49) rfl hr (ds := []) rfl (fun _ _ => .nil) (fun L ca env hl hf hc Fo => ?_)
 obtain rfl := List.eq_nil_of_length_eq_zero hl; exact h L env hf hc Fo
theorem zfc {B : zan} {A : Around} {l : Led} {Ψ : XQ} {Φ : EQ} {x0 x1 : AV} (hK : KF B.K) (hr : A.depth < recursionLimit)
  (h : ∀ L  env, env.frame = some L → env.code = zbj B.K 471 → zaf env L ["self", "told", "way", "path", "left", "inner"] [] [] [] → Ex B (A.deeper env) env ((L, .ns [("self", some x0), ("told", some x1), ("way", none), ("path", none), ("left", none), ("inner", none)]) :: l) zpi (zbs Φ) (Xp (A.deeper env) env Ψ)) :
  Fn B A (.ref 471) [x0, x1] l Φ Ψ := by
 refine znT (kg hK 50) (kg hK 51) rfl hr (ds := []) rfl (fun _ _ => .nil) (fun L ca env hl hf hc Fo => ?_)
 obtain rfl := List.eq_nil_of_length_eq_zero hl; exact h L env hf hc Fo
theorem zez {B : zan} {A : Around} {l : Led} {Ψ : XQ} {Φ : EQ} {x0 x1 : AV} (hK : KF B.K) (hr : A.depth < recursionLimit)
  (h : ∀ L  env, env.frame = some L → env.code = zbj B.K 476 → zaf env L ["self", "told"] ["reversed", "TypeFault"] [] [] → Ex B (A.deeper env) env ((L, .ns [("self", some x0), ("told", some x1)]) :: l) zph (zbs Φ) (Xp (A.deeper env) env Ψ)) :
  Fn B A (.ref 476) [x0, x1] l Φ Ψ := by
 refine znT (kg hK 52) (kg hK 53) rfl hr (ds := []) rfl (fun _ _ => .nil) (fun L ca env hl hf hc Fo => ?_)
 obtain rfl := List.eq_nil_of_length_eq_zero hl; exact h L env hf hc Fo
theorem zdF {B : zan} {A : Around} {l : Led} {Ψ : XQ} {Φ : EQ} {x0 : AV} (hK : KF B.K) (hr : A.depth < recursionLimit)
  (h : ∀ L  env, env.frame = some L → env.code = zbj B.K 497 → zaf env L ["world", "keys", "parts", "greats", "known", "told", "spot"] ["is_comparable", "TypeFault", "is_part", "size_of"] [] [] → Ex B (A.deeper env) env ((L, .ns [("world", some x0), ("keys", none), ("parts", none), ("greats", none), ("known", none), ("told", none), ("spot", none)]) :: l) zpg (zbs Φ) (Xp (A.deeper env) env Ψ)) :
  Fn B A (.ref 497) [x0] l Φ Ψ := by
 refine znT (kg hK 54) (kg hK 55) rfl hr (ds := []) rfl (fun _ _ => .nil) (fun L ca env hl hf hc Fo => ?_)
 obtain rfl := List.eq_nil_of_length_eq_zero hl; exact h L env hf hc Fo
theorem zeF {B : zan} {A : Around} {l : Led} {Ψ : XQ} {Φ : EQ} {x0 x1 x2 x3 x4 x5 : AV} (hK : KF B.K) (hr : A.depth < recursionLimit)
  (h : ∀ L  env, env.frame = some L → env.code = zbj B.K 511 → zaf env L ["self", "name", "entry", "spot", "owner", "is_checked"] [] [] [] → Ex B (A.deeper env) env ((L, .ns [("self", some x0), ("name", some x1), ("entry", some x2), ("spot", some x3), ("owner", some x4), ("is_checked", some x5)]) :: l) zpf (zbs Φ) (fun _ _ => False)) :
  Fn B A (.ref 511) [x0, x1, x2, x3, x4, x5] l Φ Ψ := by
 refine zbP (kg hK 56) (kg hK 57) rfl hr (ds := []) rfl (fun _ _ => .nil) (fun L ca env hl hf hc Fo => ?_)
 obtain rfl := List.eq_nil_of_length_eq_zero hl; exact h L env hf hc Fo
theorem zf1 {B : zan} {A : Around} {l : Led} {Ψ : XQ} {Φ : EQ} {x0 x1 : AV} (hK : KF B.K) (hr : A.depth < recursionLimit)
  (h : ∀ L  env, env.frame = some L → env.code = zbj B.K 533 → zaf env L ["self", "outer", "owner"] [] [] [] → Ex B (A.deeper env) env ((L, .ns [("self", some x0), ("outer", some x1), ("owner", some (.none))]) :: l) zpe (zbs Φ) (fun _ _ => False)) :
  Fn B A (.ref 533) [x0, x1] l Φ Ψ := by
 refine zbP (kg hK 58) (kg hK 60) rfl hr (ds := [.none]) rfl (fun _ _ => .cons (zc5 (kg hK 61)) .nil) (fun L ca env hl hf hc Fo => ?_)
 obtain rfl := List.eq_nil_of_length_eq_zero hl; exact h L env hf hc Fo
theorem zeE {B : zan} {A : Around} {l : Led} {Ψ : XQ} {Φ : EQ} {x0 x1 x2 x3 : AV} (hK : KF B.K) (hr : A.depth < recursionLimit)
  (h : ∀ L  env, env.frame = some L → env.code = zbj B.K 541 → zaf env L ["self", "name", "entry", "spot", "is_checked"] ["NameFault", "ScopeRow"] [] [] → Ex B (A.deeper env) env ((L, .ns [("self", some x0), ("name", some x1), ("entry", some x2), ("spot", some x3), ("is_checked", some (.bool false))]) :: l) zpd (zbs Φ) (fun _ _ => False)) :
  Fn B A (.ref 541) [x0, x1, x2, x3] l Φ Ψ := by
 refine zbP (kg hK 62) (kg hK 63) rfl hr (ds := [.bool false]) rfl (fun _ _ => .cons (zc5 (kg hK 64)) .nil) (fun L ca env hl hf hc Fo => ?_)
 obtain rfl := List.eq_nil_of_length_eq_zero hl; exact h L env hf hc Fo
theorem zho {B : zan} {A : Around} {l : Led} {Ψ : XQ} {Φ : EQ} {x0 x1 : AV} (hK : KF B.K) (hr : A.depth < recursionLimit)
  (h : ∀ L  env, env.frame = some L → env.code = zbj B.K 555 → zaf env L ["self", "name", "here"] [] [] [] → Ex B (A.deeper env) env ((L, .ns [("self", some x0), ("name", some x1), ("here", none)]) :: l) zpc (zbs Φ) (fun _ _ => False)) :
  Fn B A (.ref 555) [x0, x1] l Φ Ψ := by
 refine zbP (kg hK 65) (kg hK 66) rfl hr (ds := []) rfl (fun _ _ => .nil) (fun L ca env hl hf hc Fo => ?_)
 obtain rfl := List.eq_nil_of_length_eq_zero hl; exact h L env hf hc Fo
theorem zgH {B : zan} {A : Around} {l : Led} {Ψ : XQ} {Φ : EQ} {x0 x1 : AV} (hK : KF B.K) (hr : A.depth < recursionLimit)
  (h : ∀ L  env, env.frame = some L → env.code = zbj B.K 563 → zaf env L ["self", "name", "spot", "found"] ["NameFault"] [] [] → Ex B (A.deeper env) env ((L, .ns [("self", some x0), ("name", some x1), ("spot", some (.none)), ("found", none)]) :: l) zpb (zbs Φ) (fun _ _ => False)) :
  Fn B A (.ref 563) [x0, x1] l Φ Ψ := by
 refine zbP (kg hK 67) (kg hK 68) rfl hr (ds := [.none]) rfl (fun _ _ => .cons (zc5 (kg hK 69)) .nil) (fun L ca env hl hf hc Fo => ?_)
 obtain rfl := List.eq_nil_of_length_eq_zero hl; exact h L env hf hc Fo
theorem zeG {B : zan} {A : Around} {l : Led} {Ψ : XQ} {Φ : EQ} {x0 x1 x2 x3 x4 : AV} (hK : KF B.K) (hr : A.depth < recursionLimit)
  (h : ∀ L  env, env.frame = some L → env.code = zbj B.K 611 → zaf env L ["self", "path", "package", "underlying", "methods"] [] [] [] → Ex B (A.deeper env) env ((L, .ns [("self", some x0), ("path", some x1), ("package", some x2), ("underlying", some x3), ("methods", some x4)]) :: l) zpa (zbs Φ) (fun _ _ => False)) :
  Fn B A (.ref 611) [x0, x1, x2, x3, x4] l Φ Ψ := by
 refine zbP (kg hK 70) (kg hK 71) rfl hr (ds := []) rfl (fun _ _ => .nil) (fun L ca env hl hf hc Fo => ?_)
 obtain rfl := List.eq_nil_of_length_eq_zero hl; exact h L env hf hc Fo
theorem zgF {B : zan} {A : Around} {l : Led} {Ψ : XQ} {Φ : EQ} (hK : KF B.K) (hr : A.depth < recursionLimit)
  (h : ∀ L  env, env.frame = some L → env.code = zbj B.K 625 → zaf env L ["text", "adding", "gate", "group", "told", "locks", "waits"] ["PLAIN", "NamedRow"] [] [] → Ex B (A.deeper env) env ((L, .ns [("text", none), ("adding", none), ("gate", none), ("group", none), ("told", none), ("locks", none), ("waits", none)]) :: l) zo9 (zbs Φ) (fun _ _ => False)) :
  Fn B A (.ref 625) [] l Φ Ψ := by
 refine zbP (kg hK 72) (kg hK 73) rfl hr (ds := []) rfl (fun _ _ => .nil) (fun L ca env hl hf hc Fo => ?_)
 obtain rfl := List.eq_nil_of_length_eq_zero hl; exact h L env hf hc Fo
theorem ziT {B : zan} {A : Around} {l : Led} {Ψ : XQ} {Φ : EQ} (hK : KF B.K) (hr : A.depth < recursionLimit)
  (h : ∀ L  env, env.frame = some L → env.code = zbj B.K 632 → zaf env L ["found", "kind", "name"] ["Scope", "INT_KINDS", "ERROR", "BUILTINS"] [] [] → Ex B (A.deeper env) env ((L, .ns [("found", none), ("kind", none), ("name", none)]) :: l) zo8 (zbs Φ) (fun _ _ => False)) :
  Fn B A (.ref 632) [] l Φ Ψ := by
 refine zbP (kg hK 74) (kg hK 75) rfl hr (ds := []) rfl (fun _ _ => .nil) (fun L ca env hl hf hc Fo => ?_)
 obtain rfl := List.eq_nil_of_length_eq_zero hl; exact h L env hf hc Fo
theorem zgG {B : zan} {A : Around} {l : Led} {Ψ : XQ} {Φ : EQ} {x0 : AV} (hK : KF B.K) (hr : A.depth < recursionLimit)
  (h : ∀ L  env, env.frame = some L → env.code = zbj B.K 647 → zaf env L ["self", "packages"] ["known_rows"] [] [] → Ex B (A.deeper env) env ((L, .ns [("self", some x0), ("packages", some (.none))]) :: l) zo7 (zbs Φ) (fun _ _ => False)) :
  Fn B A (.ref 647) [x0] l Φ Ψ := by
 refine zbP (kg hK 76) (kg hK 77) rfl hr (ds := [.none]) rfl (fun _ _ => .cons (zc5 (kg hK 78)) .nil) (fun L ca env hl hf hc Fo => ?_)
 obtain rfl := List.eq_nil_of_length_eq_zero hl; exact h L env hf hc Fo
theorem zeD {B : zan} {A : Around} {l : Led} {Ψ : XQ} {Φ : EQ} {x0 x1 : AV} (hK : KF B.K) (hr : A.depth < recursionLimit)
  (h : ∀ L  env, env.frame = some L → env.code = zbj B.K 654 → zaf env L ["self", "told", "row"] ["NameFault", "TypeFault"] [] [] → Ex B (A.deeper env) env ((L, .ns [("self", some x0), ("told", some x1), ("row", none)]) :: l) zo6 (zbs Φ) (fun _ _ => False)) :
  Fn B A (.ref 654) [x0, x1] l Φ Ψ := by
 refine zbP (kg hK 79) (kg hK 80) rfl hr (ds := []) rfl (fun _ _ => .nil) (fun L ca env hl hf hc Fo => ?_)
 obtain rfl := List.eq_nil_of_length_eq_zero hl; exact h L env hf hc Fo
theorem zeC {B : zan} {A : Around} {l : Led} {Ψ : XQ} {Φ : EQ} {x0 x1 : AV} (hK : KF B.K) (hr : A.depth < recursionLimit)
  (h : ∀ L  env, env.frame = some L → env.code = zbj B.K 661 → zaf env L ["self", "entry"] [] [] [] → Ex B (A.deeper env) env ((L, .ns [("self", some x0), ("entry", some x1)]) :: l) zo5 (zbs Φ) (fun _ _ => False)) :
  Fn B A (.ref 661) [x0, x1] l Φ Ψ := by
 refine zbP (kg hK 81) (kg hK 82) rfl hr (ds := []) rfl (fun _ _ => .nil) (fun L ca env hl hf hc Fo => ?_)
 obtain rfl := List.eq_nil_of_length_eq_zero hl; exact h L env hf hc Fo
theorem ziY {B : zan} {A : Around} {l : Led} {Ψ : XQ} {Φ : EQ} {x0 x1 : AV} (hK : KF B.K) (hr : A.depth < recursionLimit)
  (h : ∀ L  env, env.frame = some L → env.code = zbj B.K 675 → zaf env L ["script", "k", "cell", "great", "mixed"] ["len", "max", "int"] [] [] → Ex B (A.deeper env) env ((L, .ns [("script", some x0), ("k", some x1), ("cell", none), ("great", none), ("mixed", none)]) :: l) znD (zbs Φ) (fun _ _ => False)) :
  Fn B A (.ref 675) [x0, x1] l Φ Ψ := by
 refine zbP (kg hK 83) (kg hK 84) rfl hr (ds := []) rfl (fun _ _ => .nil) (fun L ca env hl hf hc Fo => ?_)
 obtain rfl := List.eq_nil_of_length_eq_zero hl; exact h L env hf hc Fo
theorem ziV {B : zan} {A : Around} {l : Led} {Ψ : XQ} {Φ : EQ} {x0 x1 : AV} (hK : KF B.K) (hr : A.depth < recursionLimit)
  (h : ∀ L  env, env.frame = some L → env.code = zbj B.K 682 → zaf env L ["source", "top", "drawn"] [] [] [] → Ex B (A.deeper env) env ((L, .ns [("source", some x0), ("top", some x1), ("drawn", none)]) :: l) zo4 (zbs Φ) (fun _ _ => False)) :
  Fn B A (.ref 682) [x0, x1] l Φ Ψ := by
 refine zbP (kg hK 85) (kg hK 86) rfl hr (ds := []) rfl (fun _ _ => .nil) (fun L ca env hl hf hc Fo => ?_)
 obtain rfl := List.eq_nil_of_length_eq_zero hl; exact h L env hf hc Fo
theorem zj8 {B : zan} {A : Around} {l : Led} {Ψ : XQ} {Φ : EQ} {x0 x1 : AV} (hK : KF B.K) (hr : A.depth < recursionLimit)
  (h : ∀ L  env, env.frame = some L → env.code = zbj B.K 689 → zaf env L ["source", "things"] ["_law_take", "len"] [] [] → Ex B (A.deeper env) env ((L, .ns [("source", some x0), ("things", some x1)]) :: l) zo3 (zbs Φ) (fun _ _ => False)) :
  Fn B A (.ref 689) [x0, x1] l Φ Ψ := by
 refine zbP (kg hK 87) (kg hK 88) rfl hr (ds := []) rfl (fun _ _ => .nil) (fun L ca env hl hf hc Fo => ?_)
 obtain rfl := List.eq_nil_of_length_eq_zero hl; exact h L env hf hc Fo
theorem ziZ {B : zan} {A : Around} {l : Led} {Ψ : XQ} {Φ : EQ} {x0 : AV} (hK : KF B.K) (hr : A.depth < recursionLimit)
  (h : ∀ L  env, env.frame = some L → env.code = zbj B.K 694 → zaf env L ["some", "parts", "levels"] ["max", "sum"] [] [] → Ex B (A.deeper env) env ((L, .ns [("some", some x0), ("parts", none), ("levels", none)]) :: l) zo2 (zbs Φ) (fun _ _ => False)) :
  Fn B A (.ref 694) [x0] l Φ Ψ := by
 refine zbP (kg hK 89) (kg hK 90) rfl hr (ds := []) rfl (fun _ _ => .nil) (fun L ca env hl hf hc Fo => ?_)
 obtain rfl := List.eq_nil_of_length_eq_zero hl; exact h L env hf hc Fo
theorem zhn {B : zan} {A : Around} {l : Led} {Ψ : XQ} {Φ : EQ} {x0 x1 : AV} (hK : KF B.K) (hr : A.depth < recursionLimit)
  (h : ∀ L  env, env.frame = some L → env.code = zbj B.K 701 → zaf env L ["many", "row"] ["_law_made", "max"] [] [] → Ex B (A.deeper env) env ((L, .ns [("many", some x0), ("row", some x1)]) :: l) zo1 (zbs Φ) (fun _ _ => False)) :
  Fn B A (.ref 701) [x0, x1] l Φ Ψ := by
 refine zbP (kg hK 91) (kg hK 92) rfl hr (ds := []) rfl (fun _ _ => .nil) (fun L ca env hl hf hc Fo => ?_)
 obtain rfl := List.eq_nil_of_length_eq_zero hl; exact h L env hf hc Fo
theorem zhm {B : zan} {A : Around} {l : Led} {Ψ : XQ} {Φ : EQ} {x0 x1 : AV} (hK : KF B.K) (hr : A.depth < recursionLimit)
  (h : ∀ L  env, env.frame = some L → env.code = zbj B.K 708 → zaf env L ["source", "rows", "way", "k", "there", "leaf", "row"] ["_law_take", "len", "str", "_law_one", "_law_array"] [] [] → Ex B (A.deeper env) env ((L, .ns [("source", some x0), ("rows", some x1), ("way", none), ("k", none), ("there", none), ("leaf", none), ("row", none)]) :: l) zo0 (zbs Φ) (fun _ _ => False)) :
  Fn B A (.ref 708) [x0, x1] l Φ Ψ := by
 refine zbP (kg hK 93) (kg hK 94) rfl hr (ds := []) rfl (fun _ _ => .nil) (fun L ca env hl hf hc Fo => ?_)
 obtain rfl := List.eq_nil_of_length_eq_zero hl; exact h L env hf hc Fo
theorem ziX {B : zan} {A : Around} {l : Led} {Ψ : XQ} {Φ : EQ} {x0 : AV} (hK : KF B.K) (hr : A.depth < recursionLimit)
  (h : ∀ L c0 c1 env, env.frame = some L → env.code = zbj B.K 713 → zaf env L ["turn", "some", "T"] ["range", "_law_take", "_law_array", "_law_one", "_law_inner", "tuple", "enumerate", "_law_made"] [("rows", c0), ("source", c1)] [] → Ex B (A.deeper env) env ((L, .ns [("turn", none), ("some", none), ("T", none)]) :: (c0, .cell none) :: (c1, .cell (some x0)) :: l) zoZ (zbs Φ) (fun _ _ => False)) :
  Fn B A (.ref 713) [x0] l Φ Ψ := by
 refine zbP (kg hK 95) (kg hK 96) rfl hr (ds := []) rfl (fun _ _ => .nil) (fun L ca env hl hf hc Fo => ?_)
 obtain ⟨c0, c1, rfl⟩ := znd hl; exact h L c0 c1 env hf hc Fo
theorem zhl {B : zan} {A : Around} {l : Led} {Ψ : XQ} {Φ : EQ} {x0 x1 : AV} (hK : KF B.K) (hr : A.depth < recursionLimit)
  (h : ∀ L  env, env.frame = some L → env.code = zbj B.K 720 → zaf env L ["mark", "types", "world", "k", "T"] ["World", "enumerate", "str", "NamedRow"] [] [] → Ex B (A.deeper env) env ((L, .ns [("mark", some x0), ("types", some x1), ("world", none), ("k", none), ("T", none)]) :: l) zoY (zbs Φ) (fun _ _ => False)) :
  Fn B A (.ref 720) [x0, x1] l Φ Ψ := by
 refine zbP (kg hK 97) (kg hK 98) rfl hr (ds := []) rfl (fun _ _ => .nil) (fun L ca env hl hf hc Fo => ?_)
 obtain rfl := List.eq_nil_of_length_eq_zero hl; exact h L env hf hc Fo
theorem ziU {B : zan} {A : Around} {l : Led} {Ψ : XQ} {Φ : EQ} {x0 x1 x2 : AV} (hK : KF B.K) (hr : A.depth < recursionLimit)
  (h : ∀ L  env, env.frame = some L → env.code = zbj B.K 727 → zaf env L ["world", "path", "known", "fault"] ["size_of", "TypeFault"] [] [] → Ex B (A.deeper env) env ((L, .ns [("world", some x0), ("path", some x1), ("known", some x2), ("fault", none)]) :: l) zoX (zbs Φ) (fun _ _ => False)) :
  Fn B A (.ref 727) [x0, x1, x2] l Φ Ψ := by
 refine zbP (kg hK 99) (kg hK 100) rfl hr (ds := []) rfl (fun _ _ => .nil) (fun L ca env hl hf hc Fo => ?_)
 obtain rfl := List.eq_nil_of_length_eq_zero hl; exact h L env hf hc Fo
theorem ziW {B : zan} {A : Around} {l : Led} {Ψ : XQ} {Φ : EQ} {x0 : AV} (hK : KF B.K) (hr : A.depth < recursionLimit)
  (h : ∀ L  env, env.frame = some L → env.code = zbj B.K 734 → zaf env L ["call", "fault"] ["TypeFault"] [] [] → Ex B (A.deeper env) env ((L, .ns [("call", some x0), ("fault", none)]) :: l) zoW (zbs Φ) (fun _ _ => False)) :
  Fn B A (.ref 734) [x0] l Φ Ψ := by
 refine zbP (kg hK 101) (kg hK 102) rfl hr (ds := []) rfl (fun _ _ => .nil) (fun L ca env hl hf hc Fo => ?_)
 obtain rfl := List.eq_nil_of_length_eq_zero hl; exact h L env hf hc Fo
theorem zde {B : zan} {A : Around} {l : Led} {Ψ : XQ} {Φ : EQ} {x0 : AV} (hK : KF B.K) (hr : A.depth < recursionLimit)
  (h : ∀ L  env, env.frame = some L → env.code = zbj B.K 739 → zaf env L ["V"] ["isinstance", "tuple", "_law_made"] [] [] → Ex B (A.deeper env) env ((L, .ns [("V", some x0)]) :: l) zoV (zbs Φ) (fun _ _ => False)) :
  Fn B A (.ref 739) [x0] l Φ Ψ := by
 refine zbP (kg hK 103) (kg hK 104) rfl hr (ds := []) rfl (fun _ _ => .nil) (fun L ca env hl hf hc Fo => ?_)
 obtain rfl := List.eq_nil_of_length_eq_zero hl; exact h L env hf hc Fo
theorem zed {B : zan} {A : Around} {l : Led} {Ψ : XQ} {Φ : EQ} {x0 : AV} (hK : KF B.K) (hr : A.depth < recursionLimit)
  (h : ∀ L c0 env, env.frame = some L → env.code = zbj B.K 744 → zaf env L ["source", "rows", "shared", "due", "places", "k", "path", "told"] ["_law_rows", "_law_world", "_law_spot", "list", "range", "len", "_law_take", "str", "_law_told", "_law_counted", "zero_value"] [("world", c0)] [] → Ex B (A.deeper env) env ((L, .ns [("source", some x0), ("rows", none), ("shared", none), ("due", none), ("places", none), ("k", none), ("path", none), ("told", none)]) :: (c0, .cell none) :: l) zoU (zbs Φ) (fun _ _ => False)) :
  Fn B A (.ref 744) [x0] l Φ Ψ := by
 refine zbP (kg hK 105) (kg hK 106) rfl hr (ds := []) rfl (fun _ _ => .nil) (fun L ca env hl hf hc Fo => ?_)
 obtain ⟨c0, rfl⟩ := zk3 hl; exact h L c0 env hf hc Fo
theorem zdH {B : zan} {A : Around} {l : Led} {Ψ : XQ} {Φ : EQ} (hK : KF B.K) (hr : A.depth < recursionLimit)
  (h : ∀ L c0 env, env.frame = some L → env.code = zbj B.K 749 → zaf env L ["types", "k", "shared", "told", "path"] ["range", "_law_world", "str", "_law_told", "_law_spot"] [("world", c0)] [] → Ex B (A.deeper env) env ((L, .ns [("types", none), ("k", none), ("shared", none), ("told", none), ("path", none)]) :: (c0, .cell none) :: l) zoT (zbs Φ) (fun _ _ => False)) :
  Fn B A (.ref 749) [] l Φ Ψ := by
 refine zbP (kg hK 107) (kg hK 108) rfl hr (ds := []) rfl (fun _ _ => .nil) (fun L ca env hl hf hc Fo => ?_)
 obtain ⟨c0, rfl⟩ := zk3 hl; exact h L c0 env hf hc Fo
theorem zcX {B : zan} {A : Around} {l : Led} {Ψ : XQ} {Φ : EQ} (hK : KF B.K) (hr : A.depth < recursionLimit)
  (h : ∀ L c0 env, env.frame = some L → env.code = zbj B.K 754 → zaf env L ["types", "k", "there", "told"] ["range", "str", "_law_world"] [("world", c0)] [] → Ex B (A.deeper env) env ((L, .ns [("types", none), ("k", none), ("there", none), ("told", none)]) :: (c0, .cell none) :: l) zoS (zbs Φ) (fun _ _ => False)) :
  Fn B A (.ref 754) [] l Φ Ψ := by
 refine zbP (kg hK 109) (kg hK 110) rfl hr (ds := []) rfl (fun _ _ => .nil) (fun L ca env hl hf hc Fo => ?_)
 obtain ⟨c0, rfl⟩ := zk3 hl; exact h L c0 env hf hc Fo
theorem zee {B : zan} {A : Around} {l : Led} {Ψ : XQ} {Φ : EQ} {x0 : AV} (hK : KF B.K) (hr : A.depth < recursionLimit)
  (h : ∀ L c0 c1 env, env.frame = some L → env.code = zbj B.K 759 → zaf env L ["one", "two", "whole", "text", "written", "told", "due"] ["range", "World", "_law_one", "type_of", "Scope", "universe", "max", "_law_spot"] [("world", c0), ("source", c1)] [] → Ex B (A.deeper env) env ((L, .ns [("one", none), ("two", none), ("whole", none), ("text", none), ("written", none), ("told", none), ("due", none)]) :: (c0, .cell none) :: (c1, .cell (some x0)) :: l) zoR (zbs Φ) (fun _ _ => False)) :
  Fn B A (.ref 759) [x0] l Φ Ψ := by
 refine zbP (kg hK 111) (kg hK 112) rfl hr (ds := []) rfl (fun _ _ => .nil) (fun L ca env hl hf hc Fo => ?_)
 obtain ⟨c0, c1, rfl⟩ := znd hl; exact h L c0 c1 env hf hc Fo
theorem zqk {B : zan} {A : Around} {l : Led} {Ψ : XQ} {Φ : EQ} {x0 : AV} (hK : KF B.K) (hr : A.depth < recursionLimit)
  (h : ∀ L  env, env.frame = some L → env.code = zbj B.K 766 → zaf env L ["script", "source"] ["_law_chain_right", "_law_doubled_right", "_law_pool", "_law_rows_right", "_law_late_right"] [] [] → Ex B (A.deeper env) env ((L, .ns [("script", some x0), ("source", none)]) :: l) zoQ (zbs Φ) (fun _ _ => False)) :
  Fn B A (.ref 766) [x0] l Φ Ψ := by
 refine zbP (kg hK 113) (kg hK 114) rfl hr (ds := []) rfl (fun _ _ => .nil) (fun L ca env hl hf hc Fo => ?_)
 obtain rfl := List.eq_nil_of_length_eq_zero hl; exact h L env hf hc Fo
theorem zgs {P : Params} {h : Heap} : ∀ {ns : List Int} {vs : List Value}, WellAll P h vs (ofPys (ns.map PyData.int)) → ∀ h' : Heap, VRs h' vs (ns.map AV.int)
 | [], _, w, h' => by cases w; exact .nil
 | i :: r, _, w, h' => by
  cases w with
  | cons a b =>
   cases a with
   | int i t => exact .cons .int (zgs b h')
set_option maxHeartbeats 0 in
noncomputable def zdV : List (Addr × Addr) := [(442, 438), (743, 741), (748, 746), (758, 756)]
noncomputable def zdD (p1 p2 p3 p4 : Array Value) : Led := [(438, .raw (tabObj p1)), (741, .raw (tabObj p2)), (746, .raw (tabObj p3)), (756, .raw (tabObj p4))]
noncomputable def zqN : Prop := ∀ (B : zan) (sc : Addr) (ns : List Int), KF B.K → B.tabs = zdV → zjv B sc (ns.map .int) → ns.length ≤ 63 →
 Fn B callerA (.ref 766) [.ref sc] (zdD #[] #[] #[] #[]) (fun a l' => a = .bool true ∧ ∃ p1 p2 p3 p4, Le (zdD p1 p2 p3 p4) l') (fun _ _ => False)
theorem zcQ {i j : Int} (h : j.natAbs < 2 ^ 62) : IntMulOk i j := by
 refine IntMulOk.of_right ?_
 unfold Builtin.Int.intBits
 split
 ·walk_at "o"
 ·rename_i q
  have h0 : j.natAbs ≠ 0 := by simpa using q
  have := (Nat.log2_lt h0).mpr h
  walk_at "o"
theorem zcb {a m : Int} (h : 0 < m) : 0 ≤ a.fmod m ∧ a.fmod m < m := ⟨Int.fmod_nonneg_of_pos _ h, Int.fmod_lt_of_pos _ h⟩
theorem fdiv_nonneg {a m : Int} (h : 0 ≤ a) (hm : 0 < m) : 0 ≤ a.fdiv m := Int.fdiv_nonneg h (by walk_at "o")
theorem zcU {B : zan} {A : Around} {l : Led} {Ψ : XQ} {Φ : EQ} (hK : KF B.K) (hr : A.depth < recursionLimit) {src : Addr} {a b top : Int} {f : zaa → Led} (hu : Up l src (.list [.int a, .int b]) f) (ha : 0 ≤ a) (hb : 0 ≤ b) (hb2 : b < 2147483647) (ht : 0 < top) (ht2 : top < 2 ^ 30)
  (h : ∀ d a' b', 0 ≤ d → d < top → 0 ≤ a' → 0 ≤ b' → b' < 2147483647 → Φ (.int d) (f (.list [.int a', .int b']))) : Fn B A (.ref 682) [.ref src, .int top] l Φ Ψ := by
 refine ziV hK hr fun L env hf hc Fo => ?_
 have hs := hu.mem
 show Ex _ _ _ _ (_ :: _) _ _
 walk_at "g"
 refine zce (fun q => ?_) (fun q => ?_)
 ·walk_at "g"
  refine zfz (by walk_at "o") ?_
  walk_at "g"
  refine zke (by walk_at "o") (PyProof.noPylong_small (by walk_at "o")) ?_
  walk_at "g"
  refine zh2 (.tail hu) (by decide) (by simp) (by decide) ?_
  walk_at "g"
  have r1 := zcb (a := a) ht
  exact ⟨_, Le.skip Le.refl, h _ _ _ r1.1 r1.2 (fdiv_nonneg ha ht) hb hb2⟩
 ·walk_at "g"
  refine zcP (zcQ (by decide)) ?_
  walk_at "g"
  refine zfz (by decide) ?_
  have r1 := zcb (a := b * 39373 + 7) (m := 2147483647) (by decide)
  walk_at "g"
  refine zh2 (.tail hu) (by decide) (by simp) (by decide) ?_
  generalize (b * 39373 + 7).fmod 2147483647 = b2 at *
  have hs2 := hu.new (.list [.int a, .int b2])
  have e : (List.set [AV.int a, AV.int b] (Int.toNat 1) (AV.int b2)) = [.int a, .int b2] := rfl
  rwa [e]
  walk_at "g"
  refine zcP (zcQ (by walk_at "o")) ?_
  walk_at "g"
  refine zfz (by decide) ?_
  have r2 := zcb (a := b2 * b2) (m := 2147483629) (by decide)
  walk_at "g"
  refine zke (by decide) (PyProof.noPylong_small (by decide)) ?_
  walk_at "g"
  refine zfz (by walk_at "o") ?_
  have r3 := zcb (a := (((b2 * b2).fmod 2147483629).fdiv 32)) ht
  walk_at "g"
  exact ⟨_, Le.skip Le.refl, h _ _ _ r3.1 r3.2 ha r1.1 r1.2⟩
theorem zac {B : zan} {l : Led} {f : Addr} (h : keepIn B.K (.ref f) = true) : ze7 B (.ref f) l := zkw h
theorem zad {B : zan} {x : Str} {f : Addr} (h : nsIn B.K mainGlobals x = some (some (.ref f))) : zpS B x (.ref f) := ⟨_, h, fun _ _ => .ref⟩
theorem za6 {B : zan} {x : Str} {n : String} (h : nsIn B.K mainGlobals x = some none) (hb : bootBuiltins x = some (.builtin n)) (hn : x ≠ "__name__") : zqQ B x (.bi n) := ⟨_, h, hb, hn, fun _ => .bi⟩
theorem zaO {B : zan} {x : Str} {n : String} (h : nsIn B.K mainGlobals x = some none) (hb : bootBuiltins x = some (.type n)) (hn : x ≠ "__name__") : zqQ B x (.ty n) := ⟨_, h, hb, hn, fun _ => .ty⟩
theorem zgI {B : zan} {A : Around} {l : Led} {Ψ : XQ} {Φ : EQ} (hK : KF B.K) (hr : A.depth + 1 < recursionLimit) {src t : Addr} {a b : Int} {xs : List AV} {f : zaa → Led} (hu : Up l src (.list [.int a, .int b]) f) (hm : ∀ a' b', (t, zaa.list xs) ∈ f (.list [.int a', .int b'])) (hm0 : (t, zaa.list xs) ∈ l) (ha : 0 ≤ a) (hb : 0 ≤ b) (hb2 : b < 2147483647)
  (hx : 0 < xs.length) (hx2 : xs.length < 2 ^ 30) (h : ∀ x ∈ xs, ∀ a' b', 0 ≤ a' → 0 ≤ b' → b' < 2147483647 → Φ x (f (.list [.int a', .int b']))) : Fn B A (.ref 689) [.ref src, .ref t] l Φ Ψ := by
 refine zj8 hK (by walk_at "d") fun L env hf hc Fo => ?_
 show Ex _ _ _ _ (_ :: _) _ _
 walk_at "g"
 refine zal Fo (by walk_at "m") (zad (kg hK 116)) ?_
 walk_at "g"
 refine zah Fo (by walk_at "m") (za6 (n := "len") (kg hK 117) (by decide +kernel) (by decide)) ?_
 walk_at "g"
 refine ⟨zap, zit (by walk_at "m") (by walk_at "o") ?_⟩
 walk_at "g"
 refine ⟨zac (kg hK 115), zab (zcU hK (by walk_at "d") (.tail hu) ha hb hb2 (by walk_at "o") (by omega) fun d a' b' h1 h2 h3 h4 h5 => ?_)⟩
 have hd' : d.toNat < xs.length := by walk_at "o"
 refine zda (.tail _ (hm a' b')) h1 (by walk_at "o") (List.getElem?_eq_getElem hd') ?_ (by intro _ _; walk_at "r")
 walk_at "g"
 exact ⟨_, Le.skip Le.refl, h _ (List.getElem_mem hd') _ _ h3 h4 h5⟩
theorem zbq : bootBuiltins "max" = some (.builtin "max") := by decide +kernel
theorem zkX : bootBuiltins "int" = some (.type "int") := by decide +kernel
theorem zm9 {B : zan} {A : Around} {l : Led} {Ψ : XQ} {Φ : EQ} (hK : KF B.K) (hr : A.depth + 1 < recursionLimit) (hh : A.handled = none) {sc : Addr} {ns : List Int} (hs : zjv B sc (ns.map .int)) (hn : ns.length ≤ 63)
  (h : ∀ D a b, 0 ≤ a → 0 ≤ b → b < 2147483647 → Φ (.ref D) ((D, .list [.int a, .int b]) :: l)) : Fn B A (.ref 675) [.ref sc, .int 0] l Φ Ψ := by
 refine ziY hK (by walk_at "d") fun L env hf hc Fo => ?_
 show Ex _ _ _ _ (_ :: _) _ _
 walk_at "g"
 have fin : ∀ c : Int, Ex B (A.deeper env) env ((L, .ns [("script", some (.ref sc)), ("k", some (.int 0)), ("cell", some (.int c)), ("great", none), ("mixed", none)]) :: l) (znD.drop 1) (zbs Φ) (fun _ _ => False) := by
  intro c
  show Ex _ _ _ _ (_ :: _) _ _
  walk_at "g"
  refine zah Fo (by walk_at "m") (za6 (n := "max") (kg hK 118) zbq (by decide)) ?_
  walk_at "g"
  refine ⟨zap, zd6 hh ?_⟩
  walk_at "g"
  have hg : 0 ≤ max c (-1 - c) := by walk_at "o"
  generalize max c (-1 - c) = g at hg ⊢
  refine zfz (by decide) ?_
  walk_at "g"
  refine zcP (zcQ (by decide)) ?_
  walk_at "g"
  refine zcP (zcQ (by decide)) ?_
  walk_at "g"
  refine zcP (zcQ (by decide)) ?_
  walk_at "g"
  refine zcP (zcQ (by decide)) ?_
  walk_at "g"
  refine zfz (by decide) ?_
  have r1 := zcb (a := (g.fmod 2147483629 + 7919 * 0 * 0 + 31 * 0 + 17) * 48271) (m := 2147483647) (by decide)
  generalize ((g.fmod 2147483629 + 7919 * 0 * 0 + 31 * 0 + 17) * 48271).fmod 2147483647 = mx at r1 ⊢
  walk_at "g"
  refine zah Fo (by walk_at "m") (zaO (n := "int") (kg hK 119) zkX (by decide)) ?_
  walk_at "g"
  refine zdZ (by decide) (by decide +kernel) ?_
  walk_at "g"
  refine ⟨zaA, zhJ ?_⟩
  have hi : ∃ b : Int, 0 ≤ b ∧ b ≤ 1 ∧ (if decide ((10 : Int) ^ (18 : Int).toNat ≤ g) = true then (1 : Int) else 0) = b := by
   split
   ·exact (ze8 1 (by walk_at "o") (by walk_at "o") rfl)
   ·exact (ze8 0 (by walk_at "o") (by walk_at "o") rfl)
  refine zdx hi fun b hb0 hb1 hb => ?_
  clear hi
  rwa [hb]
  refine zcP (zcQ (by walk_at "o")) ?_
  walk_at "g"
  refine fun D => zoJ ?_
  exact ⟨_, by walk_at "e", h D _ _ (Int.mul_nonneg hg hb0) r1.1 r1.2⟩
 refine zah Fo (by walk_at "m") (za6 (n := "len") (kg hK 117) (by decide +kernel) (by decide)) ?_
 walk_at "g"
 refine ⟨zap, zhI hs (by simp; walk_at "o") ?_⟩
 walk_at "g"
 refine zce (fun q => ?_) (fun q => ?_)
 ·walk_at "g"
  have hp : 0 < ns.length := by simpa using q
  refine zli hs (by decide) (by decide) (x := .int ns[0]) (by simp [hp]) ?_ (by intro _ _; walk_at "r")
  refine zfP Fo (by walk_at "m") (by walk_at "u") (by walk_at "u") ?_
  exact zgc (fin _)
 ·refine zmz ?_
  refine zfP Fo (by walk_at "m") (by walk_at "u") (by walk_at "u") ?_
  exact zgc (fin _)
theorem znh {m : List (Str × Option AV)} {x : Str} {t : List Str} (h : m.map (·.1) = x :: t) : ∃ a r, m = (x, a) :: r ∧ r.map (·.1) = t := by
 cases m with
 | nil => exact nomatch h
 | cons p r => exact (zk4 p.2 r (congrArg (· :: r) (Prod.ext (List.cons.inj h).1 rfl)) ((List.cons.inj h).2))
theorem zqs {m : List (Str × Option AV)} {x : Str} (h : m.map (·.1) = [x]) : ∃ a, m = [(x, a)] :=
 zbE (znh h) fun a r e q => ⟨a, e.trans (congrArg _ (List.map_eq_nil_iff.mp q))⟩
theorem zdk {m : List (Str × Option AV)} {x y : Str} (h : m.map (·.1) = [x, y]) : ∃ a b, m = [(x, a), (y, b)] :=
 zbE (znh h) fun a r e q => (zqs q).elim fun b e2 => (iEE a b (e.trans (congrArg _ e2)))
theorem zlK {m : List (Str × Option AV)} {x y z : Str} (h : m.map (·.1) = [x, y, z]) : ∃ a b c, m = [(x, a), (y, b), (z, c)] :=
 zbE (znh h) fun a r e q => xEE (zdk q) fun b c e2 => (zqu a b c (e.trans (congrArg _ e2)))
noncomputable def zaT : Option (Int × Int) → AV
 | none => .none
 | some p => .tup [.int p.1, .int p.2]
noncomputable def zeb (r : Option (Int × Int) × Int) : AV := .tup [zaT r.1, .int r.2]
theorem zj3 {rs : List (Option (Int × Int) × Int)} {i : Nat} {x : AV} (h : (rs.map zeb)[i]? = some x) : ∃ r, rs[i]? = some r ∧ x = zeb r := by
 rw [List.getElem?_map] at h
 cases q : rs[i]? with
 | none => rw [q] at h; cases h
 | some r => rw [q] at h; exact (iEA r rfl ((Option.some.inj h).symm))
theorem zaM {α : Type} {l : List α} {i : Nat} {x : α} (h : l[i]? = some x) : l.take (i + 1) = l.take i ++ [x] := by
 rwa [List.take_add_one, h]; rfl
theorem zj9 (o : Option (Int × Int)) : zau (zaT o) = true := by cases o <;> rfl
theorem zfx : ∀ rs : List (Option (Int × Int) × Int), zaw (rs.map fun r => zaT r.1) = true
 | [] => rfl
 | r :: rs => by show (zau (zaT r.1) && zaw (rs.map fun r => zaT r.1)) = true; rw [zj9, zfx rs]; rfl
theorem zny (o : Option (Int × Int)) : zaH (zaT o) ≤ 1 := by cases o <;> simp [zaT, zaH, zaG]
theorem zis : ∀ rs : List (Option (Int × Int) × Int), zaG (rs.map fun r => zaT r.1) ≤ 1
 | [] => Nat.zero_le _
 | r :: rs => by show max (zaH (zaT r.1)) (zaG (rs.map fun r => zaT r.1)) ≤ 1; have := zny r.1; have := zis rs; walk_at "o"
theorem zmd (rs : List (Option (Int × Int) × Int)) : ((rs.map fun r => zaT r.1).any fun y => zd8 y .none) = rs.any fun r => r.1.isNone := by
 rwa [List.any_map]
 congr 1
 funext r
 show zd8 (zaT r.1) .none = _
 cases r.1 <;> rfl
noncomputable def zbw (r : Option (Int × Int) × Int) : Int := r.2 * (r.1.getD (0, 0)).1
noncomputable def lvF (r : Option (Int × Int) × Int) : Int := (r.1.getD (0, 0)).2
noncomputable def zaU (rs : List (Option (Int × Int) × Int)) : Option (Int × Int) :=
 if rs.any (fun r => r.1.isNone) = true then none
 else if max 1 (rs.map zbw).sum > 2 ^ 20 ∨ 1 + (rs.map lvF).foldl max 0 > 60 then none else some (max 1 (rs.map zbw).sum, 1 + (rs.map lvF).foldl max 0)
theorem zkW : bootBuiltins "sum" = some (.builtin "sum") := by decide +kernel
theorem zi1 {a b : Int} (h1 : 0 ≤ a) (h2 : a ≤ 2 ^ 20) (h3 : 0 ≤ b) (h4 : b ≤ 2 ^ 20) : 0 ≤ a * b ∧ a * b ≤ 2 ^ 40 := by
 refine ⟨Int.mul_nonneg h1 h3, ?_⟩
 have := Int.mul_le_mul h2 h4 h3 (by decide)
 exact Int.le_trans this (by decide)
theorem zgw {M : Int} (hM : 0 ≤ M) : ∀ {l : List Int}, (∀ n ∈ l, 0 ≤ n ∧ n ≤ M) → 0 ≤ l.sum ∧ l.sum ≤ l.length * M
 | [], _ => by simp
 | n :: l, h => by
  have ih := zgw hM (l := l) fun m hm => h m (.tail _ hm)
  have hn := h n (.head _)
  rwa [List.sum_cons, List.length_cons]
  have e : ((l.length + 1 : Nat) : Int) * M = l.length * M + M := by push_cast; rw [Int.add_mul, Int.one_mul]
  rwa [e]; walk_at "o"
theorem zkx {B : zan} {A : Around} {T : Expr → Prop} {a : AV} {xs : List AV} {Req : Led → Prop} {l l1 l2 : Led} (h : Le l1 l) (x : It B A T a xs Req l1 l2) : It B A T a xs Req l l2 := fun s v E G r => x s v E (G.le h) r
theorem zbY : ∀ (ns : List Int) (k : Int), k ≤ ns.foldl max k ∧ ∀ n ∈ ns, n ≤ ns.foldl max k
 | [], k => ⟨Int.le_refl _, fun _ h => nomatch h⟩
 | n :: ns, k => by
  refine xA (zbY ns (max k n)) fun h1 h2 => ?_
  rwa [List.foldl_cons]
  refine ⟨by walk_at "o", fun m hm => ?_⟩
  refine mcE hm ?_ fun m hm => ?_
  ·walk_at "o"
  ·exact h2 m hm
theorem zdp : ∀ (ns : List Int) (k : Int), ns.foldl max k ∈ k :: ns
 | [], k => .head _
 | n :: ns, k => by
  rwa [List.foldl_cons]
  have := zdp ns (max k n)
  rcases List.mem_cons.mp this with e | h
  ·rwa [e]
   by_cases q : k ≤ n
   ·rw [show max k n = n by walk_at "o"]; exact .tail _ (.head _)
   ·rw [show max k n = k by walk_at "o"]; exact .head _
  ·exact .tail _ (.tail _ h)
theorem zlN {ns : List Int} {m : Int} (hm : m ∈ (0 :: ns)) (h : ∀ n ∈ (0 :: ns), n ≤ m) : m = ns.foldl max 0 := by
 have h1 := h _ (zdp ns 0)
 refine xA (zbY ns 0) fun h2 h3 => ?_
 rcases List.mem_cons.mp hm with e | hm
 ·walk_at "o"
 ·have := h3 m hm; walk_at "o"
set_option maxHeartbeats 4000000 in
theorem zhu {B : zan} {A : Around} {l : Led} {Ψ : XQ} {Φ : EQ} (hK : KF B.K) (hr : A.depth + 1 < recursionLimit) (hh : A.handled = none) (hu : A.units + 20 < cLine) {t : Addr} {rs : List (Option (Int × Int) × Int)} (ht : (t, zaa.list (rs.map zeb)) ∈ l) (hn : rs.length ≤ 10 ^ 5)
  (hb : ∀ r ∈ rs, 0 ≤ r.2 ∧ r.2 ≤ 2 ^ 20 ∧ ∀ p, r.1 = some p → 0 ≤ p.1 ∧ p.1 ≤ 2 ^ 20 ∧ 0 ≤ p.2 ∧ p.2 ≤ 100) (h : Φ (zaT (zaU rs)) l) : Fn B A (.ref 694) [.ref t] l Φ Ψ := by
 refine ziZ hK (by walk_at "d") fun L env hf hc Fo => ?_
 show Ex _ _ _ _ (_ :: _) _ _
 have hh2 : (A.deeper env).handled = none := hh
 walk_at "g"
 refine za8 Fo (own := [".0", "one", "many"]) (gs' := []) (cs := []) (cl' := []) (by decide +kernel) rfl (fun _ h => nomatch h) ?_ (by intro _; walk_at "r")
 walk_at "g"
 refine ⟨rs.map zeb, _, fun i ys l' => ys = (rs.take i).map (fun r => zaT r.1) ∧ l' = (L, zaa.ns [("some", some (.ref t)), ("parts", none), ("levels", none)]) :: l, _, _, zbx hh (by walk_at "m"), trivial, by simp; walk_at "o", ⟨rfl, rfl⟩, ?_, ?_, ?_⟩
 ·intro i ys l' k zq34
  revert l'
  refine sAQ fun _ => ?_
  walk_at "m"
 ·intro C env' i x ys m ks l' hx zq35 Fo' hm
  revert ys l'
  refine sQQ ?_
  refine zn6 (zlK hm) fun a b c yq192 => ?_
  subst yq192
  refine xEA (zj3 hx) fun r hr' yq193 => ?_
  subst yq193
  show As _ _ _ _ (.tup [zaT r.1, .int r.2]) _ _ _
  walk_at "g"
  exact ⟨_, _, rfl, Le.refl, by rwa [zaM hr', List.map_append]; rfl, rfl⟩
 ·intro ys l' zq36 D
  revert ys l'
  refine sQQ ?_
  have e0 : (rs.take (rs.map zeb).length) = rs := by rw [List.length_map, List.take_length]
  rwa [e0]
  refine zdM (by walk_at "m") (zfx rs) rfl (by have := zis rs; show A.units + 3 + _ + 0 + 1 < _; walk_at "o") ?_
  rwa [zmd rs]
  walk_at "g"
  refine zce (fun q => ?_) (fun q => ?_)
  ·walk_at "g"
   have e1 : zaU rs = none := by unfold zaU; rw [if_pos q]
   rw [e1] at h
   exact ⟨l, by walk_at "e", h⟩
  ·have hall : ∀ r ∈ rs, ∃ p, r.1 = some p := by
    intro r hm
    have := List.any_eq_false.mp q r hm
    cases e : r.1 with
    | none => rw [e] at this; simp at this
    | some p => exact ⟨p, rfl⟩
   walk_at "g"
   refine zah Fo (by walk_at "m") (za6 (n := "max") (kg hK 118) zbq (by decide)) ?_
   walk_at "g"
   refine zah Fo (by walk_at "m") (za6 (n := "sum") (kg hK 120) zkW (by decide)) ?_
   walk_at "g"
   refine za8 Fo (own := [".0", "one", "many"]) (gs' := []) (cs := []) (cl' := []) (by decide +kernel) rfl (fun _ h => nomatch h) ?_ (by intro _; walk_at "r")
   walk_at "g"
   refine ⟨rs.map zeb, _, fun i ys l' => ys = ((rs.take i).map zbw).map .int ∧ l' = (D, zaa.list (rs.map fun r => zaT r.1)) :: (L, zaa.ns [("some", some (.ref t)), ("parts", none), ("levels", none)]) :: l, _, _, zbx hh (by walk_at "m"), trivial, by simp; walk_at "o", ⟨rfl, rfl⟩, ?_, ?_, ?_⟩
   ·intro i ys l' k zq37
    revert l'
    refine sAQ fun _ => ?_
    walk_at "m"
   ·intro C env' i x ys m ks l' hx zq38 Fo' hm
    revert ys l'
    refine sQQ ?_
    refine zn6 (zlK hm) fun a b c yq199 => ?_
    subst yq199
    refine xEA (zj3 hx) fun r hr' yq200 => ?_
    subst yq200
    have hmem := List.mem_of_getElem? hr'
    refine xE (hall r hmem) fun p hp => ?_
    have hbr := hb r hmem
    obtain ⟨o, n⟩ := r
    dsimp only at hp
    subst hp
    show As _ _ _ _ (.tup [.tup [.int p.1, .int p.2], .int n]) _ _ _
    walk_at "g"
    have := hbr.2.2 p rfl
    refine zcP (zcQ (by walk_at "o")) ?_
    exact ⟨_, _, rfl, Le.refl, by rwa [zaM hr', List.map_append, List.map_append]; rfl, rfl⟩
   ·intro ys l' zq39 D2
    revert ys l'
    refine sQQ ?_
    rwa [e0]
    walk_at "g"
    have pb : ∀ n ∈ rs.map zbw, 0 ≤ n ∧ n ≤ 2 ^ 40 := by
     intro n hn
     refine xEA (List.mem_map.mp hn) fun r hr yq203 => ?_
     subst yq203
     refine xE (hall r hr) fun p hp => ?_
     have hbr := hb r hr
     have hp2 := hbr.2.2 p hp
     unfold zbw
     rwa [hp]
     exact zi1 hbr.1 hbr.2.1 hp2.1 hp2.2.1
    refine ⟨zap, zoK (ns := rs.map zbw) hh2 (by walk_at "m") (fun j _ => ?_) (fun n hn => ?_) ?_⟩
    ·have := zgw (M := 2 ^ 40) (by decide) (l := (rs.map zbw).take j) fun n hn => pb n (List.mem_of_mem_take hn)
     have hl : ((rs.map zbw).take j).length ≤ 10 ^ 5 := by simp; walk_at "o"
     walk_at "o"
    ·have := pb n hn; walk_at "o"
    walk_at "g"
    refine ⟨zap, zd6 hh2 ?_⟩
    walk_at "g"
    refine zah Fo (by walk_at "m") (za6 (n := "max") (kg hK 118) zbq (by decide)) ?_
    walk_at "g"
    refine fun Z => ?_
    refine za8 Fo (own := [".0", "one", "many"]) (gs' := []) (cs := []) (cl' := []) (by decide +kernel) rfl (fun _ h => nomatch h) ?_ (by intro _; walk_at "r")
    walk_at "g"
    refine ⟨rs.map zeb, (fun l' => (t, zaa.list (rs.map zeb)) ∈ l'), fun i ys l' => ys = ((rs.take i).map lvF).map .int ∧ l' = (Z, zaa.list [.int 0]) :: (L, zaa.ns [("some", some (.ref t)), ("parts", some (.int (max 1 (rs.map zbw).sum))), ("levels", none)]) :: l, (Z, zaa.list [.int 0]) :: (L, zaa.ns [("some", some (.ref t)), ("parts", some (.int (max 1 (rs.map zbw).sum))), ("levels", none)]) :: l, fun _ => True, ?_, trivial, by simp; walk_at "o", ⟨rfl, rfl⟩, ?_, ?_, ?_⟩
    ·exact zkx (by walk_at "e") (zbx hh (by walk_at "m"))
    ·intro i ys l' k zq40
     revert l'
     refine sAQ fun _ => ?_
     walk_at "m"
    ·intro C env' i x ys m ks l' hx zq41 Fo' hm
     revert ys l'
     refine sQQ ?_
     refine zn6 (zlK hm) fun a b c yq207 => ?_
     subst yq207
     refine xEA (zj3 hx) fun r hr' yq208 => ?_
     subst yq208
     have hmem := List.mem_of_getElem? hr'
     refine xE (hall r hmem) fun p hp => ?_
     obtain ⟨o, n⟩ := r
     dsimp only at hp
     subst hp
     show As _ _ _ _ (.tup [.tup [.int p.1, .int p.2], .int n]) _ _ _
     walk_at "g"
     exact ⟨_, _, rfl, Le.refl, by rwa [zaM hr', List.map_append, List.map_append]; rfl, rfl⟩
    ·intro ys l' zq42 D3
     revert ys l'
     refine sQQ ?_
     rwa [e0]
     refine zc0 (by walk_at "m") (by walk_at "m") (by simp; walk_at "o") fun D4 => ?_
     walk_at "g"
     refine ⟨zap, zhH (ns := 0 :: rs.map lvF) hh2 (by exact List.Mem.head _) (by simp) fun m hm hmax => ?_⟩
     have em : m = (rs.map lvF).foldl max 0 := zlN hm hmax
     subst em
     walk_at "g"
     refine zdZ (by decide) (by decide +kernel) ?_
     walk_at "g"
     refine zce (fun q1 => ?_) (fun q1 => ?_)
     ·walk_at "g"
      have e1 : zaU rs = none := by unfold zaU; rw [if_neg (by rwa [q]; exact Bool.false_ne_true), if_pos (.inl (by simpa using q1))]
      rw [e1] at h
      exact ⟨l, by walk_at "e", h⟩
     ·walk_at "g"
      refine zce (fun q2 => ?_) (fun q2 => ?_)
      ·walk_at "g"
       have e1 : zaU rs = none := by unfold zaU; rw [if_neg (by rwa [q]; exact Bool.false_ne_true), if_pos (.inr (by simpa using q2))]
       rw [e1] at h
       exact ⟨l, by walk_at "e", h⟩
      ·walk_at "g"
       have e1 : zaU rs = some (max 1 (rs.map zbw).sum, 1 + (rs.map lvF).foldl max 0) := by
        unfold zaU
        rw [if_neg (by rwa [q]; exact Bool.false_ne_true), if_neg (fun x => x.elim (fun y => absurd (decide_eq_true y) (by simpa using q1)) (fun y => absurd (decide_eq_true y) (by simpa using q2)))]
       rw [e1] at h
       exact ⟨l, by walk_at "e", h⟩
theorem ziy {B : zan} {A : Around} {l : Led} {Ψ : XQ} {Φ : EQ} (hK : KF B.K) (hr : A.depth + 2 < recursionLimit) (hh : A.handled = none) (hu : A.units + 30 < cLine) {many : Int} {T : AV} {o : Option (Int × Int)} {b : Bool}
  (hm : 0 ≤ many ∧ many ≤ 2 ^ 20) (hb : ∀ p, o = some p → 0 ≤ p.1 ∧ p.1 ≤ 2 ^ 20 ∧ 0 ≤ p.2 ∧ p.2 ≤ 100)
  (h : Φ (.tup [.tup [.str "array", .int many, T], zaT (zaU [(o, max 1 many)]), .bool (b && decide (0 < many))]) l) : Fn B A (.ref 701) [.int many, .tup [T, zaT o, .bool b]] l Φ Ψ := by
 refine zhn hK (by walk_at "d") fun L env hf hc Fo => ?_
 show Ex _ _ _ _ (_ :: _) _ _
 have hh2 : (A.deeper env).handled = none := hh
 walk_at "g"
 walk_at "g"
 refine zal Fo (by walk_at "m") (zad (kg hK 122)) ?_
 walk_at "g"
 refine zah Fo (by walk_at "m") (za6 (n := "max") (kg hK 118) zbq (by decide)) ?_
 walk_at "g"
 refine ⟨zap, zd6 hh2 ?_⟩
 walk_at "g"
 walk_at "g"
 refine fun D => ?_
 walk_at "g"
 refine ⟨zac (kg hK 121), zab (zhu hK (by walk_at "d") hh2 (by walk_at "d") (t := D) (rs := [(o, max 1 many)]) (by exact List.Mem.head _) (by simp) (fun r hr => ?_) ?_)⟩
 ·rwa [List.mem_singleton.mp hr]
  exact (iAA (by dsimp only; walk_at "o") (by dsimp only; walk_at "o") hb)
 walk_at "g"
 refine zmA ?_ (by walk_at "r")
 walk_at "g"
 refine zce (fun q => ?_) (fun q => ?_)
 ·subst q
  walk_at "g"
  exact ⟨l, by walk_at "e", h⟩
 ·subst q
  walk_at "g"
  exact ⟨l, by walk_at "e", h⟩
inductive Ty where
 | leaf (v : AV)
 | named (p : Str)
 | arr (n : Int) (t : Ty)
 | struct (fs : List (Str × Ty))
mutual
noncomputable def zaC : Ty → AV
 | .leaf v => v
 | .named p => .tup [.str "named", .str p]
 | .arr n t => .tup [.str "array", .int n, zaC t]
 | .struct fs => .tup [.str "struct", .tup (zei fs)]
noncomputable def zei : List (Str × Ty) → List AV
 | [] => []
 | (x, t) :: r => .tup [.str x, zaC t, .bool false] :: zei r
end
theorem zbB {l : Led} {a : Addr} {c : zaa} {f : zaa → Led} (u : Up l a c f) (c' : zaa) : Up (f c') a c' f := by
 induction u with
 | head => exact .head
 | tail _ ih => exact .tail ih
structure zbr where
 T : Ty
 o : Option (Int × Int)
 b : Bool
noncomputable def zax (r : zbr) : AV := .tup [zaC r.T, zaT r.o, .bool r.b]
noncomputable def nmP (mark : Str) (k : Nat) : Str := ("m." ++ mark : Str) ++ Str.ofString (toString (k : Int))
noncomputable def zib (p : Str) : List AV := [.tup [.str "bool"], .tup [.str "int", .str "int8"], .tup [.str "string"], .tup [.str "ptr", .tup [.str "named", .str p]], .tup [.str "slice", .tup [.str "named", .str p]],
 .tup [.str "map", .tup [.str "string"], .tup [.str "named", .str p]], .tup [.str "chan", .str "both", .tup [.str "named", .str p]], .tup [.str "func", .tup [.tup [.str "named", .str p]], .tup [], .bool false]]
inductive zb3 (rows : List zbr) : zbr → Prop
 | leaf {k : Nat} {v : AV} : k < rows.length → v ∈ zib ("m.T" ++ Str.ofString (toString (k : Int)) : Str) → zb3 rows ⟨.leaf v, some (1, 1), true⟩
 | named {k : Nat} {r : zbr} : rows[k]? = some r → zb3 rows ⟨.named ("m.T" ++ Str.ofString (toString (k : Int)) : Str), r.o, r.b⟩
 | arr {k : Nat} {r : zbr} {n : Int} : rows[k]? = some r → 0 ≤ n → n ≤ 1000 → zb3 rows ⟨.arr n (.named ("m.T" ++ Str.ofString (toString (k : Int)) : Str)), zaU [(r.o, max 1 n)], r.b && decide (0 < n)⟩
theorem zbK : bootBuiltins "str" = some (.type "str") := by decide +kernel
theorem zna : ∀ k : Fin 100, (Str.ofString (toString ((k : Nat) : Int))).length ≤ 10 := by decide +kernel
theorem zch {k : Int} (h0 : 0 ≤ k) (h1 : k < 100) : (Str.ofString (toString k)).length ≤ 10 := by
 have := zna ⟨k.toNat, by walk_at "o"⟩
 have e : ((k.toNat : Nat) : Int) = k := by walk_at "o"
 dsimp only at this
 rw [e] at this
 exact this
theorem zbf {k : Int} (h0 : 0 ≤ k) (h1 : k < 100) : k.natAbs.log2 < 1920 := by
 by_cases h : k.natAbs = 0
 ·rwa [h]; decide
 ·exact (Nat.log2_lt h).mpr (Nat.lt_of_lt_of_le (show k.natAbs < 2 ^ 7 by walk_at "o") (Nat.pow_le_pow_right (by decide) (by decide)))
set_option maxHeartbeats 4000000 in
theorem zih {B : zan} {A : Around} {l : Led} {Ψ : XQ} {Φ : EQ} (hK : KF B.K) (hr : A.depth + 4 < recursionLimit) (hh : A.handled = none) (hu : A.units + 60 < cLine) {src ra : Addr} {a b : Int} {rows : List zbr} {f : zaa → Led} (hs : Up l src (.list [.int a, .int b]) f)
  (hm : ∀ c, (ra, zaa.list (rows.map zax)) ∈ f c) (hm0 : (ra, zaa.list (rows.map zax)) ∈ l) (h0 : 0 ≤ a ∧ 0 ≤ b ∧ b < 2147483647) (hn : 0 < rows.length ∧ rows.length < 100)
  (hb : ∀ r ∈ rows, ∀ p, r.o = some p → 0 ≤ p.1 ∧ p.1 ≤ 2 ^ 20 ∧ 0 ≤ p.2 ∧ p.2 ≤ 100)
  (h : ∀ r a' b', zb3 rows r → 0 ≤ a' → 0 ≤ b' → b' < 2147483647 → Φ (zax r) (f (.list [.int a', .int b']))) : Fn B A (.ref 708) [.ref src, .ref ra] l Φ Ψ := by
 refine zhm hK (by walk_at "d") fun L env hf hc Fo => ?_
 show Ex _ _ _ _ (_ :: _) _ _
 have hh2 : (A.deeper env).handled = none := hh
 refine zai ?_
 refine zav hh2 (za1 Fo.kind (Fo.loc _ (by walk_at "m")) (Fo.loc _ (by walk_at "m")) (by walk_at "r") (by decide) (by walk_at "r") (by walk_at "r") (by walk_at "r") (by walk_at "r")) ?_
 walk_at "g"
 refine zal Fo (by walk_at "m") (zad (kg hK 116)) ?_
 walk_at "g"
 refine ⟨zac (kg hK 115), zab (zcU hK (by walk_at "d") (.tail hs) h0.1 h0.2.1 h0.2.2 (by walk_at "o") (by walk_at "o") fun way a1 b1 w1 w2 w3 w4 w5 => ?_)⟩
 walk_at "g"
 refine zal Fo (by walk_at "m") (zad (kg hK 116)) ?_
 walk_at "g"
 refine zah Fo (by walk_at "m") (za6 (n := "len") (kg hK 117) (by decide +kernel) (by decide)) ?_
 walk_at "g"
 refine ⟨zap, zit (.tail _ (hm _)) (by simp; walk_at "o") ?_⟩
 walk_at "g"
 refine ⟨zac (kg hK 115), zab (zcU hK (by walk_at "d") (.tail (zbB hs _)) w3 w4 w5 (by simp; walk_at "o") (by simp; omega) fun k a2 b2 k1 k2 k3 k4 k5 => ?_)⟩
 walk_at "g"
 have hk : k < 100 := by simp at k2; walk_at "o"
 refine ⟨_, rfl, rfl, ?_⟩
 show Sr _ _ _ [_, _] [_, _] _ _ _
 walk_at "g"
 refine zah Fo (by walk_at "m") (zaO (n := "str") (kg hK 127) zbK (by decide)) ?_
 walk_at "g"
 refine ⟨zaA, zbh (zbf k1 hk) ?_⟩
 walk_at "g"
 refine zaR (by have := zch k1 hk; have e : (Str.ofString "m.T").length = 3 := (by decide +kernel); walk_at "o") ?_
 walk_at "g"
 refine zi7 ?_
 walk_at "g"
 refine zce (fun q => ?_) (fun q => ?_)
 ·walk_at "g"
  refine zal Fo (by walk_at "m") (zad (kg hK 124)) ?_
  walk_at "g"
  intro Z
  walk_at "g"
  refine ⟨zac (kg hK 123), zab (zgI hK (by walk_at "d") (.tail (.tail (zbB hs _))) (fun _ _ => List.mem_cons_self) List.mem_cons_self k3 k4 k5 (by simp) (by simp) fun v hv a3 b3 j1 j2 j3 => ?_)⟩
  walk_at "g"
  have hkl : k.toNat < rows.length := by simp at k2; walk_at "o"
  have ek : ((k.toNat : Nat) : Int) = k := by walk_at "o"
  have hv' : v ∈ zib ("m.T" ++ Str.ofString (toString ((k.toNat : Nat) : Int)) : Str) := by rwa [ek]; exact hv
  exact ⟨_, by walk_at "e", h _ a3 b3 (.leaf hkl hv') j1 j2 j3⟩
 ·have hkl : k.toNat < rows.length := by simp at k2; walk_at "o"
  have ek : ((k.toNat : Nat) : Int) = k := by walk_at "o"
  have hrow : rows[k.toNat]? = some rows[k.toNat] := List.getElem?_eq_getElem hkl
  have hrowb := hb _ (List.getElem_mem hkl)
  generalize rows[k.toNat] = r at hrow hrowb
  have hrow2 : (rows.map zax)[k.toNat]? = some (.tup [zaC r.T, zaT r.o, .bool r.b]) := by rwa [List.getElem?_map, hrow]; rfl
  walk_at "g"
  refine zda (.tail _ (hm _)) k1 (by walk_at "o") hrow2 ?_ (by intro _ _; walk_at "r")
  walk_at "g"
  refine zda (.tail _ (hm _)) k1 (by walk_at "o") hrow2 ?_ (by intro _ _; walk_at "r")
  walk_at "g"
  refine zce (fun q2 => ?_) (fun q2 => ?_)
  ·walk_at "g"
   have := h ⟨.named ("m.T" ++ Str.ofString (toString ((k.toNat : Nat) : Int)) : Str), r.o, r.b⟩ a2 b2 (.named hrow) k3 k4 k5
   rw [ek] at this
   exact ⟨_, by walk_at "e", this⟩
  ·walk_at "g"
   refine zal Fo (by walk_at "m") (zad (kg hK 126)) ?_
   walk_at "g"
   refine zal Fo (by walk_at "m") (zad (kg hK 124)) ?_
   walk_at "g"
   intro Z
   walk_at "g"
   refine ⟨zac (kg hK 123), zab (zgI hK (by walk_at "d") (.tail (.tail (zbB hs _))) (fun _ _ => List.mem_cons_self) List.mem_cons_self k3 k4 k5 (by simp) (by simp) fun v hv a3 b3 j1 j2 j3 => ?_)⟩
   obtain ⟨n, rfl, n0, n1⟩ : ∃ n, v = .int n ∧ 0 ≤ n ∧ n ≤ 1000 := by
    simp only [List.mem_cons, List.not_mem_nil, or_false] at hv
    rcases hv with rfl | rfl | rfl | rfl | rfl <;> exact (ze8 _ rfl (by decide) (by decide))
   walk_at "g"
   refine ⟨zac (kg hK 125), zab (ziy hK (by walk_at "d") hh2 (by walk_at "d") ⟨n0, by walk_at "o"⟩ hrowb ?_)⟩
   walk_at "g"
   have := h ⟨.arr n (.named ("m.T" ++ Str.ofString (toString ((k.toNat : Nat) : Int)) : Str)), zaU [(r.o, max 1 n)], r.b && decide (0 < n)⟩ a3 b3 (.arr hrow n0 n1) j1 j2 j3
   rw [ek] at this
   exact ⟨_, by walk_at "e", this⟩
theorem zdn {B : zan} {A : Around} {T : Expr → Prop} {a : AV} {xs : List AV} {Req : Led → Prop} {l l2 l3 : Led} (h : Le l3 l2) (x : It B A T a xs Req l l2) : It B A T a xs Req l l3 := fun s v E G r =>
 wpAny_mono (x s v E G r) (fun _ _ q0 => zfN q0 fun I S ls e q it hS G2 => (zcI I S ls e q it hS (G2.le (Le.app h)))) fun _ _ e => e
noncomputable def zcj : List zbr → Bool
 | [] => true
 | r :: rs => r.b && zcj rs
noncomputable def zay : Nat → List zbr → List (Str × Ty)
 | _, [] => []
 | k, r :: rs => (⟨#[97 + k]⟩, r.T) :: zay (k + 1) rs
inductive zcc : List zbr → Prop
 | start : zcc [⟨.struct [], some (1, 1), true⟩]
 | arr {rows : List zbr} {r : zbr} {n : Int} : zcc rows → zb3 rows r → 0 ≤ n → n ≤ 2 ^ 19 → zcc (rows ++ [⟨.arr n r.T, zaU [(r.o, max 1 n)], r.b && decide (0 < n)⟩])
 | struct {rows rs : List zbr} : zcc rows → (∀ r ∈ rs, zb3 rows r) → rs.length ≤ 3 → zcc (rows ++ [⟨.struct (zay 0 rs), zaU (rs.map fun r => (r.o, 1)), zcj rs⟩])
theorem zfA {rs : List (Option (Int × Int) × Int)} {p : Int × Int} (h : zaU rs = some p) (hl : ∀ r ∈ rs, ∀ q, r.1 = some q → 0 ≤ q.2) : 1 ≤ p.1 ∧ p.1 ≤ 2 ^ 20 ∧ 1 ≤ p.2 ∧ p.2 ≤ 60 := by
 unfold zaU at h
 split at h
 ·cases h
 ·split at h
  ·cases h
  ·rename_i h1 h2
   cases h
   have := (zbY (rs.map lvF) 0).1
   dsimp only
   walk_at "o"
noncomputable def bnd (o : Option (Int × Int)) : Prop := ∀ p, o = some p → 0 ≤ p.1 ∧ p.1 ≤ 2 ^ 20 ∧ 0 ≤ p.2 ∧ p.2 ≤ 100
theorem zf5 {rs : List (Option (Int × Int) × Int)} (hl : ∀ r ∈ rs, bnd r.1) : bnd (zaU rs) := fun p h => by
 have := zfA h fun r hr q e => ((hl r hr) q e).2.2.1
 walk_at "o"
theorem zdo {rows : List zbr} {r : zbr} (h : zb3 rows r) (hb : ∀ r ∈ rows, bnd r.o) : bnd r.o := by
 cases h with
 | leaf _ _ => intro p e; cases e; decide
 | named hr => have := hb _ (List.mem_of_getElem? hr); exact this
 | arr hr _ _ => exact zf5 fun q hq => by rwa [List.mem_singleton.mp hq]; exact hb _ (List.mem_of_getElem? hr)
theorem zlt {rows : List zbr} (h : zcc rows) : ∀ r ∈ rows, bnd r.o := by
 induction h with
 | start => intro r hr; rwa [List.mem_singleton.mp hr]; intro p e; cases e; decide
 | arr _ hi _ _ ih =>
  intro r hr
  rcases List.mem_append.mp hr with hr | hr
  ·exact ih r hr
  ·rwa [List.mem_singleton.mp hr]
   exact zf5 fun q hq => by rwa [List.mem_singleton.mp hq]; exact zdo hi ih
 | struct _ hi _ ih =>
  intro r hr
  rcases List.mem_append.mp hr with hr | hr
  ·exact ih r hr
  ·rwa [List.mem_singleton.mp hr]
   refine zf5 fun q hq => ?_
   refine xEA (List.mem_map.mp hq) fun r' hr' yq211 => ?_
   subst yq211
   exact zdo (hi r' hr') ih
theorem zbz : bootBuiltins "range" = some (.type "range") := by decide +kernel
theorem zfY {rs : List zbr} {i : Nat} {x : AV} (h : (rs.map zax)[i]? = some x) : ∃ r, rs[i]? = some r ∧ x = zax r := by
 rw [List.getElem?_map] at h
 cases q : rs[i]? with
 | none => rw [q] at h; cases h
 | some r => rw [q] at h; exact (iEA r rfl ((Option.some.inj h).symm))
theorem zfD : ∀ (k : Nat) (rs : List zbr), (zei (zay k rs)).length = rs.length
 | _, [] => rfl
 | k, r :: rs => by show (zei (zay (k + 1) rs)).length + 1 = _; rwa [zfD (k + 1) rs]; rfl
theorem zeW : ∀ (k : Nat) (rs : List zbr) (r : zbr), zei (zay k (rs ++ [r])) = zei (zay k rs) ++ [.tup [.str ⟨#[97 + (k + rs.length)]⟩, zaC r.T, .bool false]]
 | k, [], r => rfl
 | k, q :: rs, r => by
  show _ :: zei (zay (k + 1) (rs ++ [r])) = _ :: (zei (zay (k + 1) rs) ++ _)
  rwa [zeW (k + 1) rs r, List.length_cons, show k + 1 + rs.length = k + (rs.length + 1) by walk_at "o"]
theorem zpG {j : Nat} (h : j < 3) : (seqIndex? (j : Int) (Str.ofString "abc").length).bind ((Str.ofString "abc").cps[·]?) = some (97 + j) := by
 have : j = 0 ∨ j = 1 ∨ j = 2 := by omega
 exact this.elim (fun e => e ▸ by decide +kernel) fun q => q.elim (fun e => e ▸ by decide +kernel) fun e => e ▸ by decide +kernel
theorem zeI : ∀ rs : List zbr, zaw (rs.map fun r => AV.bool r.b) = true
 | [] => rfl
 | r :: rs => by show (true && zaw (rs.map fun r => AV.bool r.b)) = true; rwa [zeI rs]; rfl
theorem zgS : ∀ rs : List zbr, zaG (rs.map fun r => AV.bool r.b) = 0
 | [] => rfl
 | r :: rs => by show max 0 (zaG (rs.map fun r => AV.bool r.b)) = 0; rwa [zgS rs]; rfl
theorem zil : ∀ rs : List zbr, (!(rs.map fun r => AV.bool r.b).any fun y => zd8 y (.bool false)) = zcj rs
 | [] => rfl
 | r :: rs => by
  have ih := zil rs
  rwa [List.map_cons, List.any_cons, Bool.not_or, ih]
  show (!(r.b == false) && zcj rs) = (r.b && zcj rs)
  cases r.b <;> rfl
theorem zaX : bootBuiltins "tuple" = some (.type "tuple") := by decide +kernel
theorem zcG : bootBuiltins "enumerate" = some (.type "enumerate") := by decide +kernel
noncomputable def zhQ (ra L c0 c1 src : Addr) (f : zaa → Led) (i : Nat) (l' : Led) : Prop := ∃ (rows : List zbr) (a b : Int) (tv sv Tv : Option AV), zcc rows ∧ rows.length = i + 1 ∧ 0 ≤ a ∧ 0 ≤ b ∧ b < 2147483647 ∧
  l' = (ra, zaa.list (rows.map zax)) :: (L, zaa.ns [("turn", tv), ("some", sv), ("T", Tv)]) :: (c0, zaa.cell (some (.ref ra))) :: (c1, zaa.cell (some (.ref src))) :: f (.list [.int a, .int b])
theorem zj1 {ra L c0 c1 src : Addr} {f : zaa → Led} {i : Nat} {l' : Led} (rows : List zbr) (a b : Int) (tv sv Tv : Option AV) (h1 : zcc rows) (h2 : rows.length = i + 1) (h3 : 0 ≤ a) (h4 : 0 ≤ b) (h5 : b < 2147483647) (h6 : l' = (ra, zaa.list (rows.map zax)) :: (L, zaa.ns [("turn", tv), ("some", sv), ("T", Tv)]) :: (c0, zaa.cell (some (.ref ra))) :: (c1, zaa.cell (some (.ref src))) :: f (.list [.int a, .int b])) : zhQ ra L c0 c1 src f i l' := ⟨rows, a, b, tv, sv, Tv, h1, h2, h3, h4, h5, h6⟩
theorem zh4 {ra L c0 c1 src : Addr} {f : zaa → Led} {i : Nat} {ls l0 : Led} (l' : Led) (hl : Le (ls ++ l') l0) (rows : List zbr) (a b : Int) (tv sv Tv : Option AV) (h1 : zcc rows) (h2 : rows.length = i + 1) (h3 : 0 ≤ a) (h4 : 0 ≤ b) (h5 : b < 2147483647) (h6 : l' = (ra, zaa.list (rows.map zax)) :: (L, zaa.ns [("turn", tv), ("some", sv), ("T", Tv)]) :: (c0, zaa.cell (some (.ref ra))) :: (c1, zaa.cell (some (.ref src))) :: f (.list [.int a, .int b])) : ziA ls (zhQ ra L c0 c1 src f) i l0 := ⟨l', hl, zj1 rows a b tv sv Tv h1 h2 h3 h4 h5 h6⟩
set_option maxHeartbeats 4000000 in
theorem zmV {B : zan} {A : Around} {l : Led} {Ψ : XQ} {Φ : EQ} (hK : KF B.K) (hr : A.depth + 6 < recursionLimit) (hh : A.handled = none) (hu : A.units + 90 < cLine) {src : Addr} {a b : Int} {f : zaa → Led} (hs : Up l src (.list [.int a, .int b]) f)
  (h0 : 0 ≤ a ∧ 0 ≤ b ∧ b < 2147483647)
  (h : ∀ ra rows a' b', zcc rows → rows.length ≤ 9 → 0 ≤ a' → 0 ≤ b' → b' < 2147483647 → Φ (.ref ra) ((ra, .list (rows.map zax)) :: f (.list [.int a', .int b']))) : Fn B A (.ref 713) [.ref src] l Φ Ψ := by
 refine ziX hK (by walk_at "d") fun L c0 c1 env hf hc Fo => ?_
 show Ex _ _ _ _ (_ :: _) _ _
 have hh2 : (A.deeper env).handled = none := hh
 walk_at "g"
 intro ra
 walk_at "g"
 refine zd9 (fun _ _ x => x.elim) ?_ (by intro _; walk_at "r")
 walk_at "g"
 refine zah Fo (by walk_at "m") (zaO (n := "range") (kg hK 130) zbz (by decide)) ?_
 walk_at "g"
 refine zal Fo (by walk_at "m") (zad (kg hK 116)) ?_
 walk_at "g"
 refine ⟨zac (kg hK 115), zab (zcU hK (by walk_at "d") (.tail (.tail (.tail (.tail hs)))) h0.1 h0.2.1 h0.2.2 (by decide) (by decide) fun d a1 b1 d1 d2 d3 d4 d5 => ?_)⟩
 walk_at "g"
 obtain ⟨n, hn⟩ : ∃ n : Nat, 4 + d = (n : Int) := ⟨(4 + d).toNat, by walk_at "o"⟩
 rwa [hn]
 refine ⟨zaA, zcL fun r t u v => ?_⟩
 refine ⟨_, _, zhQ ra L c0 c1 src f, _, _, zdn (l3 := (ra, zaa.list [zax ⟨.struct [], some (1, 1), true⟩]) :: (L, zaa.ns [("turn", none), ("some", none), ("T", none)]) :: (c0, zaa.cell (some (.ref ra))) :: (c1, zaa.cell (some (.ref src))) :: f (.list [.int a1, .int b1])) ?_ (zdm hh2 List.mem_cons_self (by walk_at "o")), trivial, ?_, fun _ _ _ => trivial, ?_, ?_⟩
 ·exact Le.skip Le.refl
 ·exact zj1 _ a1 b1 none none none .start rfl d3 d4 d5 rfl
 ·intro i x ls l' hx zq43
  revert l'
  refine zdd fun rows a2 b2 tv sv Tv hR hlen g1 g2 g3 => ?_
  have hb := zlt hR
  have hi9 : i < n := by
   have := (List.getElem?_eq_some_iff.mp hx).1
   simpa using this
  walk_at "g"
  refine zal Fo (by walk_at "m") (zad (kg hK 116)) ?_
  walk_at "g"
  refine ⟨zac (kg hK 115), zab (zcU hK (by walk_at "d") (.app (.tail (.tail (.tail (.tail (zbB hs _)))))) g1 g2 g3 (by decide) (by decide) fun d' a3 b3 d1' d2' d3' d4' d5' => ?_)⟩
  walk_at "g"
  refine zi7 ?_
  walk_at "g"
  refine zce (fun q => ?_) (fun q => ?_)
  ·walk_at "g"
   refine zbb (by walk_at "m") ?_
   walk_at "g"
   refine zal Fo (by walk_at "m") (zad (kg hK 126)) ?_
   walk_at "g"
   refine zal Fo (by walk_at "m") (zad (kg hK 124)) ?_
   walk_at "g"
   refine zdZ (by decide) (by decide +kernel) ?_
   walk_at "g"
   intro Z
   walk_at "g"
   refine ⟨zac (kg hK 123), zab (zgI hK (by walk_at "d") (.tail (.app (.tail (.tail (.tail (.tail (zbB hs _))))))) (fun _ _ => List.mem_cons_self) List.mem_cons_self d3' d4' d5' (by simp) (by simp) fun v hv a4 b4 j1 j2 j3 => ?_)⟩
   obtain ⟨m, rfl, m0, m1⟩ : ∃ m, v = .int m ∧ 0 ≤ m ∧ m ≤ 2 ^ 19 := by
    simp only [List.mem_cons, List.not_mem_nil, or_false] at hv
    rcases hv with rfl | rfl | rfl | rfl | rfl <;> exact (ze8 _ rfl (by decide) (by decide))
   walk_at "g"
   refine zal Fo (by walk_at "m") (zad (kg hK 129)) ?_
   walk_at "g"
   refine ⟨zac (kg hK 128), zab (zih hK (by walk_at "d") hh2 (by walk_at "d") (.tail (.app (.tail (.tail (.tail (.tail (zbB hs _))))))) (fun _ => by walk_at "m") (by walk_at "m") (iAA j1 j2 j3) (by walk_at "o") hb fun r' a5 b5 hin e1 e2 e3 => ?_)⟩
   walk_at "g"
   refine ⟨zac (kg hK 125), zab (ziy hK (by walk_at "d") hh2 (by walk_at "d") ⟨m0, by walk_at "o"⟩ (zdo hin hb) ?_)⟩
   walk_at "g"
   refine ⟨zap, za3 (.tail (.app .head)) (by simp; walk_at "o") ?_⟩
   walk_at "g"
   refine zh4 _ (Le.skip Le.refl) (rows ++ [⟨.arr m r'.T, zaU [(r'.o, max 1 m)], r'.b && decide (0 < m)⟩]) a5 b5 (some x) sv Tv (.arr hR hin m0 m1) (by simp [hlen]) e1 e2 e3 (by rwa [List.map_append]; rfl)
  ·refine zai ?_
   refine zc9 Fo (by walk_at "m") (by decide) (by decide +kernel) (own := [".0", "field"]) (gs' := ["_law_inner"]) (cs := ["source", "rows"]) (cl' := [("source", c1), ("rows", c0)]) (by decide +kernel) rfl (fun p hp => by refine mcE hp ?_ fun p hp => ?_; exact .tail _ (.head _); refine mcE hp ?_ fun p hp => ?_; exact .head _; exact nomatch hp) ?_ (by intro _; walk_at "r")
   walk_at "g"
   refine zah Fo (by walk_at "m") (zaO (n := "range") (kg hK 130) zbz (by decide)) ?_
   walk_at "g"
   refine zal Fo (by walk_at "m") (zad (kg hK 116)) ?_
   walk_at "g"
   refine ⟨zac (kg hK 115), zab (zcU hK (by walk_at "d") (.app (.tail (.tail (.tail (.tail (zbB hs _)))))) d3' d4' d5' (by decide) (by decide) fun w a4 b4 w1 w2 w3 w4 w5 => ?_)⟩
   walk_at "g"
   obtain ⟨nw, hnw⟩ : ∃ n : Nat, w = (n : Int) := ⟨w.toNat, by walk_at "o"⟩
   subst hnw
   refine ⟨zaA, zcL fun r0 t0 u0 v0 => ?_⟩
   refine ⟨_, _, fun i ys l' => ∃ (rs : List zbr) (a b : Int), ys = rs.map zax ∧ rs.length = i ∧ (∀ r ∈ rs, zb3 rows r) ∧ 0 ≤ a ∧ 0 ≤ b ∧ b < 2147483647 ∧
    l' = ls ++ (ra, zaa.list (rows.map zax)) :: (L, zaa.ns [("turn", some x), ("some", sv), ("T", Tv)]) :: (c0, zaa.cell (some (.ref ra))) :: (c1, zaa.cell (some (.ref src))) :: f (.list [.int a, .int b]), _, _,
    zdn (l3 := ls ++ (ra, zaa.list (rows.map zax)) :: (L, zaa.ns [("turn", some x), ("some", sv), ("T", Tv)]) :: (c0, zaa.cell (some (.ref ra))) :: (c1, zaa.cell (some (.ref src))) :: f (.list [.int a4, .int b4])) (Le.skip Le.refl) (zdm hh2 List.mem_cons_self (by walk_at "o")), trivial, by simp; walk_at "o", ⟨([]), a4, b4, rfl, rfl, (fun _ h => nomatch h), w3, w4, w5, rfl⟩, fun _ _ _ _ _ => trivial, ?_, ?_⟩
   ·intro C env' j y ys m ks l' hy zq44 Fo' hm
    refine zb4 zq44 fun rs a5 b5 yq213 hjl hin e1 e2 e3 yq214 => ?_
    clear zq44
    subst yq213
    subst yq214
    refine xEE (zdk hm) fun ma mb yq215 => ?_
    subst yq215
    walk_at "g"
    refine zal Fo' (by walk_at "m") (zad (kg hK 129)) ?_
    walk_at "g"
    refine ⟨zac (kg hK 128), zab (zih hK (by walk_at "d") hh2 (by walk_at "d") (.tail (.app (.app (.tail (.tail (.tail (.tail (zbB hs _)))))))) (fun _ => by walk_at "m") (by walk_at "m") (iAA e1 e2 e3) (by walk_at "o") hb fun r' a6 b6 hin' e1' e2' e3' => ?_)⟩
    exact ⟨_, _, rfl, Le.refl, rs ++ [r'], a6, b6, by rwa [List.map_append]; rfl, by simp [hjl], fun z hz => (List.mem_append.mp hz).elim (hin z) (fun hz => by rwa [List.mem_singleton.mp hz]; exact hin'), e1', e2', e3', rfl⟩
   ·intro ys l' zq45 C D m
    refine zb4 zq45 fun rs a5 b5 yq216 hjl hin e1 e2 e3 yq217 => ?_
    clear zq45
    subst yq216
    subst yq217
    have hrl : rs.length ≤ 3 := by simp at hjl; walk_at "o"
    refine zfP Fo (by walk_at "m") (.tail (.tail (.app (.tail .head)))) (by walk_at "u") ?_
    refine ⟨_, _, rfl, zgc ?_⟩
    clear hjl
    have hSome : ∀ Tv', (D, zaa.list (rs.map zax)) ∈ ((D, zaa.list (rs.map zax)) :: (ls ++ (ra, zaa.list (rows.map zax)) :: (L, zaa.ns [("turn", some x), ("some", some (.ref D)), ("T", Tv')]) :: (c0, zaa.cell (some (.ref ra))) :: (c1, zaa.cell (some (.ref src))) :: f (.list [.int a5, .int b5]))) := fun _ => .head _
    walk_at "g"
    refine zah Fo (by walk_at "m") (zaO (n := "tuple") (kg hK 131) zaX (by decide)) ?_
    walk_at "g"
    refine za8 Fo (own := [".0", "k", "one"]) (gs' := []) (cs := []) (cl' := []) (by decide +kernel) rfl (fun _ h => nomatch h) ?_ (by intro _; walk_at "r")
    walk_at "g"
    refine zah Fo (by walk_at "m") (zaO (n := "enumerate") (kg hK 132) zcG (by decide)) ?_
    walk_at "g"
    refine ⟨zaA, zkV (.head _) fun e it o hne hc' hd' => ?_⟩
    have e0 : rs.take (rs.map zax).length = rs := by rwa [List.length_map, List.take_length]
    have e0' : rs.take (zd4 (rs.map zax)).length = rs := by rwa [zcK]; exact e0
    refine ⟨zd4 (rs.map zax), _, fun i ys l' => ys = zei (zay 0 (rs.take i)) ∧ l' = (D, zaa.list (rs.map zax)) :: (ls ++ (ra, zaa.list (rows.map zax)) :: (L, zaa.ns [("turn", some x), ("some", some (.ref D)), ("T", Tv)]) :: (c0, zaa.cell (some (.ref ra))) :: (c1, zaa.cell (some (.ref src))) :: f (.list [.int a5, .int b5])), _, zkA, zky hh2 hne hc' hd', trivial, by rwa [zcK]; simp; walk_at "o", ⟨rfl, rfl⟩, ?_, ?_, ?_⟩
    ·intro j ys l' k zq46
     revert l'
     refine sAQ fun _ => ?_
     walk_at "m"
    ·intro C' env' j y ys m' ks l' hy zq47 Fo' hm'
     revert ys l'
     refine sQQ ?_
     refine zn6 (zlK hm') fun ma mb mc yq221 => ?_
     subst yq221
     refine xEA (zeZ hy) fun z hz yq222 => ?_
     subst yq222
     refine xEA (zfY hz) fun r' hr' yq223 => ?_
     subst yq223
     have hj : j < rs.length := (List.getElem?_eq_some_iff.mp hr').1
     show As _ _ _ _ (.tup [.int (j : Nat), .tup [zaC r'.T, zaT r'.o, .bool r'.b]]) _ _ _
     walk_at "g"
     refine zmR (by walk_at "o") (c := 97 + j) (zpG (by walk_at "o")) ?_ (by intro _ _; walk_at "r")
     walk_at "g"
     exact ⟨_, _, rfl, Le.refl, by (rewrite [zaM hr', zeW, List.length_take, Nat.min_eq_left (Nat.le_of_lt hj), Nat.zero_add]; with_reducible rfl), rfl⟩
    ·intro ys l' zq48 D2
     revert ys l'
     refine sQQ ?_
     rwa [e0']
     walk_at "g"
     refine ⟨zaA, zbp (.head _) (by rwa [zfD]; walk_at "o") ?_⟩
     walk_at "g"
     refine zbb (by walk_at "m") ?_
     walk_at "g"
     refine zal Fo (by walk_at "m") (zad (kg hK 122)) ?_
     walk_at "g"
     refine za8 Fo (own := [".0", "one"]) (gs' := []) (cs := []) (cl' := []) (by decide +kernel) rfl (fun _ h => nomatch h) ?_ (by intro _; walk_at "r")
     walk_at "g"
     refine ⟨rs.map zax, (fun l' => (D, zaa.list (rs.map zax)) ∈ l'), fun i ys l' => ys = ((rs.take i).map fun r => (r.o, (1 : Int))).map zeb ∧ l' = (D, zaa.list (rs.map zax)) :: (ls ++ (ra, zaa.list (rows.map zax)) :: (L, zaa.ns [("turn", some x), ("some", some (.ref D)), ("T", some (zaC (.struct (zay 0 rs))))]) :: (c0, zaa.cell (some (.ref ra))) :: (c1, zaa.cell (some (.ref src))) :: f (.list [.int a5, .int b5])), (D, zaa.list (rs.map zax)) :: (ls ++ (ra, zaa.list (rows.map zax)) :: (L, zaa.ns [("turn", some x), ("some", some (.ref D)), ("T", some (zaC (.struct (zay 0 rs))))]) :: (c0, zaa.cell (some (.ref ra))) :: (c1, zaa.cell (some (.ref src))) :: f (.list [.int a5, .int b5])), fun _ => True, zkx (Le.skip Le.refl) (zbx hh2 (.head _)), trivial, by simp; walk_at "o", ⟨rfl, rfl⟩, ?_, ?_, ?_⟩
     ·intro j ys l' k zq49
      revert l'
      refine sAQ fun _ => ?_
      walk_at "m"
     ·intro C' env' j y ys m' ks l' hy zq50 Fo' hm'
      revert ys l'
      refine sQQ ?_
      refine xEE (zdk hm') fun ma mb yq229 => ?_
      subst yq229
      refine xEA (zfY hy) fun r' hr' yq230 => ?_
      subst yq230
      show As _ _ _ _ (.tup [zaC r'.T, zaT r'.o, .bool r'.b]) _ _ _
      walk_at "g"
      exact ⟨_, _, rfl, Le.refl, by rwa [zaM hr', List.map_append, List.map_append]; rfl, rfl⟩
     ·intro ys l' zq51 D3
      revert ys l'
      refine sQQ ?_
      rwa [e0]
      walk_at "g"
      refine ⟨zac (kg hK 121), zab (zhu hK (by walk_at "d") hh2 (by walk_at "d") (t := D3) (rs := rs.map fun r => (r.o, (1 : Int))) (.head _) (by simp; walk_at "o") (fun r hr => ?_) ?_)⟩
      ·refine xEA (List.mem_map.mp hr) fun r' hr' yq233 => ?_
       subst yq233
       exact (iAA (by dsimp only; walk_at "o") (by dsimp only; walk_at "o") (zdo (hin r' hr') hb))
      walk_at "g"
      refine za8 Fo (own := [".0", "one"]) (gs' := []) (cs := []) (cl' := []) (by decide +kernel) rfl (fun _ h => nomatch h) ?_ (by intro _; walk_at "r")
      walk_at "g"
      refine ⟨rs.map zax, (fun l' => (D, zaa.list (rs.map zax)) ∈ l'), fun i ys l' => ys = ((rs.take i).map fun r => AV.bool r.b) ∧ l' = (D, zaa.list (rs.map zax)) :: (ls ++ (ra, zaa.list (rows.map zax)) :: (L, zaa.ns [("turn", some x), ("some", some (.ref D)), ("T", some (zaC (.struct (zay 0 rs))))]) :: (c0, zaa.cell (some (.ref ra))) :: (c1, zaa.cell (some (.ref src))) :: f (.list [.int a5, .int b5])), (D, zaa.list (rs.map zax)) :: (ls ++ (ra, zaa.list (rows.map zax)) :: (L, zaa.ns [("turn", some x), ("some", some (.ref D)), ("T", some (zaC (.struct (zay 0 rs))))]) :: (c0, zaa.cell (some (.ref ra))) :: (c1, zaa.cell (some (.ref src))) :: f (.list [.int a5, .int b5])), fun _ => True, zkx (Le.skip Le.refl) (zbx hh2 (.head _)), trivial, by simp; walk_at "o", ⟨rfl, rfl⟩, ?_, ?_, ?_⟩
      ·intro j ys l' k zq52
       revert l'
       refine sAQ fun _ => ?_
       walk_at "m"
      ·intro C' env' j y ys m' ks l' hy zq53 Fo' hm'
       revert ys l'
       refine sQQ ?_
       refine xEE (zdk hm') fun ma mb yq237 => ?_
       subst yq237
       refine xEA (zfY hy) fun r' hr' yq238 => ?_
       subst yq238
       show As _ _ _ _ (.tup [zaC r'.T, zaT r'.o, .bool r'.b]) _ _ _
       walk_at "g"
       exact ⟨_, _, rfl, Le.refl, by rwa [zaM hr', List.map_append]; rfl, rfl⟩
      ·intro ys l' zq54 D4
       revert ys l'
       refine sQQ ?_
       rwa [e0]
       refine zf2 (.head _) (zeI rs) rfl (by have := zgS rs; show A.units + 3 + _ + 0 + 1 < _; walk_at "o") ?_
       rwa [zil rs]
       walk_at "g"
       refine ⟨zap, za3 (.tail (.tail (.app .head))) (by simp; walk_at "o") ?_⟩
       walk_at "g"
       refine zh4 _ (Le.skip (Le.skip Le.refl)) (rows ++ [⟨.struct (zay 0 rs), zaU (rs.map fun r => (r.o, 1)), zcj rs⟩]) a5 b5 (some x) (some (.ref D)) (some (zaC (.struct (zay 0 rs)))) (.struct hR hin hrl) (by simp [hlen]) e1 e2 e3 (by rwa [List.map_append]; rfl)
 ·intro l' zq55
  revert l'
  refine zdd fun rows a2 b2 tv sv Tv hR hlen g1 g2 g3 => ?_
  walk_at "g"
  have hl : rows.length ≤ 9 := by simp at hlen; walk_at "o"
  exact ⟨_, by walk_at "e", h ra rows a2 b2 hR hl g1 g2 g3⟩
noncomputable def zeP : AV → Prop
 | .tup (.str s :: _) => s ≠ "named" ∧ s ≠ "array" ∧ s ≠ "struct"
 | _ => False
noncomputable def Wf (env : Str → Option Ty) : Ty → Prop
 | .leaf v => zeP v
 | .named p => (env p).isSome = true
 | .arr n t => (0 ≤ n ∧ n ≤ 2 ^ 20) ∧ Wf env t
 | .struct fs => fs.length ≤ 100 ∧ WfL fs
where WfL : List (Str × Ty) → Prop
 | [] => True
 | (_, t) :: r => Wf env t ∧ WfL r
noncomputable def zaV : Ty → Prop
 | .named _ => False
 | _ => True
structure zgj (w : Addr) (env : Str → Option Ty) (l : Led) : Prop where
 at_ : ∃ wd nd wes nes, (w, zaa.inst 664 wd) ∈ l ∧ (wd, zaa.dict wes) ∈ l ∧ wes.map (·.1) = zar ∧ ((("named" : Str), AV.ref nd) ∈ wes) ∧ (nd, zaa.dict nes) ∈ l ∧
  (∀ p T, env p = some T → ∃ r d es, (p, AV.ref r) ∈ nes ∧ (r, zaa.inst 614 d) ∈ l ∧ (d, zaa.dict es) ∈ l ∧ (("underlying" : Str), zaC T) ∈ es)
 ok : ∀ p T, env p = some T → zaV T ∧ Wf env T
theorem zgj.up {w : Addr} {env : Str → Option Ty} {l l' : Led} (h : zgj w env l) (k : ∀ p ∈ l, p ∈ l') : zgj w env l' := by
 obtain ⟨⟨wd, nd, wes, nes, h1, h2, h3, h4, h5, h6⟩, hok⟩ := h
 exact ⟨(zdP wd nd wes nes (k _ h1) (k _ h2) h3 h4 (k _ h5) (fun p T e => zcs (h6 p T e) fun r d es a b c f => (zhz r d es a (k _ b) (k _ c) f))), hok⟩
noncomputable def zg3 (env : Str → Option Ty) : Ty → Option Ty
 | .named p => env p
 | T => some T
theorem zbu {env : Str → Option Ty} {T : Ty} (h : Wf env T) (hn : zaV T) : ∃ s r, zaC T = .tup (.str s :: r) ∧ (s == ("named" : Str)) = false := by
 cases T with
 | leaf v =>
  cases v with
  | tup l =>
   cases l with
   | nil => exact h.elim
   | cons a r =>
    cases a with
    | str s => exact (zk4 s r rfl (beq_eq_false_iff_ne.mpr h.1))
    | _ => exact h.elim
  | _ => exact h.elim
 | named p => exact hn.elim
 | arr n t => exact (zk4 ("array") _ rfl (by decide))
 | struct fs => exact (zk4 ("struct") _ rfl (by decide))
theorem zc6 {es : List (Str × AV)} {k : Str} (h : k ∈ es.map (·.1)) : (dictAt es k).isSome = true := by
 induction es with
 | nil => cases h
 | cons p r ih =>
  unfold dictAt
  by_cases e : p.1 = k
  ·rwa [if_pos e]; rfl
  ·rwa [if_neg e]
   rw [List.map_cons] at h
   rcases List.mem_cons.mp h with q | h
   ·exact absurd q.symm e
   ·exact ih h
noncomputable def zk0 (L w : Addr) (env : Str → Option Ty) (U : Ty) (u : AV) (r : Led) (n : Nat) (l : Led) : Prop := ∃ rv, (n = 1 ∧ ∃ p, env p = some U ∧ l = (L, zaa.ns [("self", some (.ref w)), ("told", some (.tup [.str "named", .str p])), ("row", rv)]) :: r) ∨
 (n = 0 ∧ l = (L, zaa.ns [("self", some (.ref w)), ("told", some u), ("row", rv)]) :: r)
theorem zkB {T : Ty} {env : Str → Option Ty} (h : Wf env T) : isNone (zaC T) = false := by
 cases T with
 | leaf v => cases v <;> first | rfl | exact h.elim
 | _ => rfl
theorem zeT {T : Ty} {env : Str → Option Ty} (h : Wf env T) : zbN (zaC T) = true := by
 cases T with
 | leaf v => cases v <;> first | rfl | exact h.elim
 | _ => rfl
theorem znE {B : zan} {A : Around} {l : Led} {Ψ : XQ} {Φ : EQ} (hK : KF B.K) (hr : A.depth < recursionLimit) (hu : A.units + 20 < cLine) {w : Addr} {env : Str → Option Ty} {T U : Ty} (hW : zgj w env l) (hT : Wf env T) (hU : zg3 env T = some U)
  (h : Φ (zaC U) l) : Fn B A (.ref 654) [.ref w, zaC T] l Φ Ψ := by
 refine zeD hK hr fun L e hf hc Fo => ?_
 show Ex _ _ _ _ (_ :: _) _ _
 refine zdz hW.at_ fun wd nd wes nes h1 h2 h3 h4 h5 h6 => ?_
 have hUok : zaV U ∧ Wf env U := by
  cases T with
  | named p => exact hW.ok p U hU
  | _ => cases hU; exact ⟨trivial, hT⟩
 refine zbE (zbu hUok.2 hUok.1) fun us ur hus hne => ?_
 have hnn := zkB hUok.2
 have hhd := zeT hUok.2
 rw [hus] at h hnn hhd
 have pcw : zaj B.K 664 = true := (kg hK 133)
 have pcn : zaj B.K 614 = true := (kg hK 134)
 have fin : findIn B.K (.ref 664) "named" = some none := (kg hK 136)
 have fiu : findIn B.K (.ref 614) "underlying" = some none := (kg hK 140)
 obtain ⟨n0, hI0⟩ : ∃ n0, zk0 L w env U (.tup (.str us :: ur)) l n0 ((L, zaa.ns [("self", some (.ref w)), ("told", some (zaC T)), ("row", none)]) :: l) := by
  cases T with
  | named p => exact ⟨1, none, .inl (znS rfl p hU rfl)⟩
  | _ => cases hU; exact ⟨0, none, .inr ⟨rfl, by (rewrite [hus]; with_reducible rfl)⟩⟩
 refine zai ?_
 refine zdy (zk0 L w env U (.tup (.str us :: ur)) l) n0 (fun _ _ x => x.elim) hI0 fun n l' hI => ?_
 obtain ⟨rv, ⟨rfl, p, hp, rfl⟩ | ⟨rfl, rfl⟩⟩ := hI
 ·refine zcs (h6 p U hp) fun ra d es k1 k2 k3 k4 => ?_
  rw [hus] at k4
  walk_at "g"
  refine zat ?_
  walk_at "g"
  refine zaq (.tail _ h1) (.tail _ h2) h4 ?_ pcw fin
  refine zf3 (.tail _ h5) ?_
  rwa [zc6 (List.mem_map_of_mem (f := (·.1)) k1)]
  walk_at "g"
  refine zaq (.tail _ h1) (.tail _ h2) h4 ?_ pcw fin
  walk_at "g"
  refine zek (.tail _ h5) k1 ?_ (by intro _ _; walk_at "r")
  walk_at "g"
  refine zaq (.tail _ k2) (.tail _ k3) k4 ?_ pcn fiu hhd
  walk_at "g"
  refine zb7 ?_
  rwa [hnn]
  walk_at "g"
  refine zaq (.tail _ k2) (.tail _ k3) k4 ?_ pcn fiu hhd
  walk_at "g"
  exact ⟨0, _, Nat.zero_lt_one, Le.refl, _, .inr ⟨rfl, rfl⟩⟩
 ·walk_at "g"
  refine zat ?_
  rwa [hne]
  walk_at "g"
  exact ⟨_, by walk_at "e", h⟩
theorem zfR {B : zan} {A : Around} {l : Led} {Ψ : XQ} {Φ : EQ} (hK : KF B.K) (hr : A.depth + 1 < recursionLimit) (hu : A.units + 30 < cLine) {w : Addr} {env : Str → Option Ty} {T U : Ty} (hW : zgj w env l) (hT : Wf env T) (hU : zg3 env T = some U)
  (h : Φ (zaC U) l) : Fn B A (.ref 85) [.ref w, zaC T] l Φ Ψ := by
 refine zeA hK (by walk_at "d") fun L e hf hc Fo => ?_
 show Ex _ _ _ _ (_ :: _) _ _
 refine zdz hW.at_ fun wd nd wes nes h1 h2 h3 h4 h5 h6 => ?_
 walk_at "g"
 refine zao (.tail _ h1) (.tail _ h2) ((kg hK 137)) ((kg hK 138)) ((kg hK 133)) (by rwa [h3]; decide) ?_
 walk_at "g"
 refine ⟨zac (kg hK 139), zab (znE hK (by walk_at "d") (by walk_at "d") (hW.up fun p hp => .tail _ hp) hT hU ?_)⟩
 walk_at "g"
 exact ⟨_, by walk_at "e", h⟩
noncomputable def zg7 : Ty → List (Ty × Int)
 | .arr n t => [(t, max 1 n)]
 | .struct fs => fs.map fun f => (f.2, 1)
 | _ => []
noncomputable def zcr (k : Ty × Int) : AV := .tup [zaC k.1, .int k.2]
theorem zoD {fs : List (Str × Ty)} {i : Nat} {x : AV} (h : (zei fs)[i]? = some x) : ∃ f, fs[i]? = some f ∧ x = .tup [.str f.1, zaC f.2, .bool false] := by
 induction fs generalizing i with
 | nil => cases h
 | cons f r ih =>
  obtain ⟨n, t⟩ := f
  change (AV.tup [.str n, zaC t, .bool false] :: zei r)[i]? = some x at h
  cases i with
  | zero => cases h; exact (iEA _ rfl rfl)
  | succ i => (refine xEA (ih (i := i) (by simpa using h)) fun f a b => ?_); exact (iEA f (by simpa using a) b)
theorem zbO : ∀ fs : List (Str × Ty), (zei fs).length = fs.length
 | [] => rfl
 | (_, _) :: r => by show (zei r).length + 1 = _; rwa [zbO r]; rfl
theorem zjC {B : zan} {A : Around} {l : Led} {Ψ : XQ} {Φ : EQ} (hK : KF B.K) (hr : A.depth + 2 < recursionLimit) (hh : A.handled = none) (hu : A.units + 40 < cLine) {w : Addr} {env : Str → Option Ty} {T U : Ty} (hW : zgj w env l) (hT : Wf env T) (hU : zg3 env T = some U)
  (h : ∀ D, Φ (.ref D) ((D, zaa.list ((zg7 U).map zcr)) :: l)) : Fn B A (.ref 107) [.ref w, zaC T] l Φ Ψ := by
 refine zfe hK (by walk_at "d") fun L e hf hc Fo => ?_
 show Ex _ _ _ _ (_ :: _) _ _
 have hh2 : (A.deeper e).handled = none := hh
 have hUok : zaV U ∧ Wf env U := by
  cases T with
  | named p => exact hW.ok p U hU
  | _ => cases hU; exact ⟨trivial, hT⟩
 walk_at "g"
 refine zal Fo (by walk_at "m") (zad (kg hK 142)) ?_
 walk_at "g"
 refine ⟨zac (kg hK 141), zab (zfR hK (by walk_at "d") (by walk_at "d") (hW.up fun p hp => .tail _ hp) hT hU ?_)⟩
 cases U with
 | named p => exact hUok.1.elim
 | leaf v =>
  refine zbE (zbu hUok.2 hUok.1) fun us ur hus _ => ?_
  have h2 : (us == ("array" : Str)) = false ∧ (us == ("struct" : Str)) = false := by
   have hl := hUok.2
   change v = _ at hus
   subst hus
   exact ⟨beq_eq_false_iff_ne.mpr hl.2.1, beq_eq_false_iff_ne.mpr hl.2.2⟩
  rwa [hus]
  walk_at "g"
  refine zat ?_
  rwa [h2.1]
  walk_at "g"
  refine zat ?_
  rwa [h2.2]
  walk_at "g"
  intro D
  walk_at "g"
  exact ⟨_, lz0 (Le.skip Le.refl), h D⟩
 | arr n t =>
  show St _ _ _ _ (.tup [.str "array", .int n, zaC t]) _ _ _
  walk_at "g"
  refine zat ?_
  walk_at "g"
  refine zah Fo (by walk_at "m") (za6 (n := "max") (kg hK 118) zbq (by decide)) ?_
  walk_at "g"
  refine ⟨zap, zd6 hh2 ?_⟩
  walk_at "g"
  intro D
  walk_at "g"
  exact ⟨_, lz0 (Le.skip Le.refl), h D⟩
 | struct fs =>
  show St _ _ _ _ (.tup [.str "struct", .tup (zei fs)]) _ _ _
  walk_at "g"
  refine zat ?_
  walk_at "g"
  refine zat ?_
  walk_at "g"
  refine za8 Fo (own := [".0", "row"]) (gs' := []) (cs := []) (cl' := []) (by decide +kernel) rfl (fun _ h => nomatch h) ?_ (by intro _; walk_at "r")
  walk_at "g"
  refine ⟨zei fs, _, fun i ys l' => ys = ((fs.take i).map fun f => zcr (f.2, 1)) ∧ l' = (L, zaa.ns [("world", some (.ref w)), ("T", some (zaC T)), ("inner", some (.tup [.str "struct", .tup (zei fs)]))]) :: l, _, _, zdl hh2, trivial, by rwa [zbO]; have := hUok.2.1; walk_at "o", ⟨rfl, rfl⟩, fun _ _ _ _ _ => trivial, ?_, ?_⟩
  ·intro C env' i x ys m ks l' hx zq56 Fo' hm
   revert ys l'
   refine sQQ ?_
   refine xEE (zdk hm) fun a b yq244 => ?_
   subst yq244
   refine xEA (zoD hx) fun f hf' yq245 => ?_
   subst yq245
   walk_at "g"
   exact ⟨_, _, rfl, Le.refl, by rwa [zaM hf', List.map_append]; rfl, rfl⟩
  ·intro ys l' zq57 D
   revert ys l'
   refine sQQ ?_
   rwa [zbO, List.take_length]
   walk_at "g"
   refine ⟨_, ?_, h D⟩
   have e : (zg7 (.struct fs)).map zcr = fs.map fun f => zcr (f.2, 1) := by show (fs.map fun f => (f.2, (1 : Int))).map zcr = _; rwa [List.map_map]; rfl
   rwa [e]
   exact lz0 (Le.skip Le.refl)
noncomputable def zbv (t : AV) (many : Int) (D : Addr) (parts levels : Int) : List (Str × AV) := [("T", t), ("many", .int many), ("left", .ref D), ("parts", .int parts), ("levels", .int levels)]
theorem zmo {B : zan} {A : Around} {l : Led} {Ψ : XQ} {Φ : EQ} (hK : KF B.K) (hr : A.depth + 4 < recursionLimit) (hh : A.handled = none) (hu : A.units + 60 < cLine) {w : Addr} {env : Str → Option Ty} {T U : Ty} {many : Int} (hW : zgj w env l) (hT : Wf env T) (hU : zg3 env T = some U)
  (h : ∀ x d D, Φ (.ref x) ((D, zaa.list ((zg7 U).map zcr)) :: (x, zaa.inst 131 d) :: (d, zaa.dict (zbv (zaC T) many D 0 0)) :: l)) : Fn B A (.ref 131) [.ref w, zaC T, .int many] l Φ Ψ := by
 refine zcE ((kg hK 145)) ((kg hK 146)) ((kg hK 147)) fun A' x d a1 a2 a3 a4 => ?_
 refine zff hK (by walk_at "d") fun L e hf hc Fo => ?_
 show Ex _ _ _ _ (_ :: _) _ _
 have pc : zaj B.K 131 = true := (kg hK 135)
 have ta : ∀ x ∈ (["T", "many", "left", "parts", "levels"] : List Str), takerIn B.K 131 x = some none := (kg hK 153)
 walk_at "g"
 refine zam (by walk_at "m") (.tail (.tail .head)) pc (ta _ (by walk_at "m")) (fun rk nd r => zae rk (by simp) r) (by simp) ?_
 walk_at "g"
 refine zam (by walk_at "m") (.tail (.tail .head)) pc (ta _ (by walk_at "m")) (fun rk nd r => zae rk (zak ["T"] rfl (by decide)) r) (by simp) ?_
 walk_at "g"
 refine zal Fo (by walk_at "m") (zad (kg hK 144)) ?_
 walk_at "g"
 refine ⟨zac (kg hK 143), zab (zjC hK (by show A'.depth + 1 + 2 < _; walk_at "o") (by show A'.handled = none; rwa [a1]; exact hh) (by show A'.units + 3 + 40 < _; walk_at "o") (hW.up fun p hp => .tail _ (.tail _ (.tail _ hp))) hT hU fun D => ?_)⟩
 walk_at "g"
 refine zam (by walk_at "m") (.tail (.tail (.tail .head))) pc (ta _ (by walk_at "m")) (fun rk nd r => zae rk (zak ["T", "many"] rfl (by decide)) r) (by simp) ?_
 walk_at "g"
 refine zam (by walk_at "m") (.tail (.tail (.tail .head))) pc (ta _ (by walk_at "m")) (fun rk nd r => zae rk (zak ["T", "many", "left"] rfl (by decide)) r) (by simp) ?_
 walk_at "g"
 refine zam (by walk_at "m") (.tail (.tail (.tail .head))) pc (ta _ (by walk_at "m")) (fun rk nd r => zae rk (zak ["T", "many", "left", "parts"] rfl (by decide)) r) (by simp) ?_
 walk_at "g"
 exact ⟨_, lz0 (Le.skip Le.refl), rfl, h x d D⟩
theorem zhX {B : zan} {A : Around} {l : Led} {Ψ : XQ} {Φ : EQ} (hK : KF B.K) (hr : A.depth < recursionLimit) (hh : A.handled = none) {x d D : Addr} {t : AV} {m parts levels many p q : Int} {f : zaa → Led} (hx : ∀ c, (x, zaa.inst 131 d) ∈ f c) (hx0 : (x, zaa.inst 131 d) ∈ l) (hd : Up l d (.dict (zbv t m D parts levels)) f)
  (hp : 0 ≤ p ∧ p ≤ 2 ^ 20) (h : Φ .none (f (.dict (zbv t m D (parts + many * p) (max levels q))))) : Fn B A (.ref 128) [.ref x, .tup [.int p, .int q], .int many] l Φ Ψ := by
 refine zdK hK hr fun L e hf hc Fo => ?_
 show Ex _ _ _ _ (_ :: _) _ _
 have hh2 : (A.deeper e).handled = none := hh
 have pc : zaj B.K 131 = true := (kg hK 135)
 have ta : ∀ x ∈ (["T", "many", "left", "parts", "levels"] : List Str), takerIn B.K 131 x = some none := (kg hK 153)
 have fi : ∀ x ∈ (["T", "many", "left", "parts", "levels"] : List Str), findIn B.K (.ref 131) x = some none := (kg hK 154)
 have hd0 := hd.mem
 refine zai ?_
 refine ziE ?_
 walk_at "g"
 refine zaq (.tail _ hx0) (.tail _ hd0) (by delta zbv; walk_at "m") ?_ pc (fi _ (by walk_at "m"))
 walk_at "g"
 refine zcP (zcQ (by walk_at "o")) ?_
 refine zkd ?_
 refine zam (es' := zbv t m D (parts + many * p) levels) (.tail _ hx0) (.tail hd) pc (ta _ (by walk_at "m")) (fun rk nd r => zbe nz3 rk nd r) (by simp [zbv]) ?_
 walk_at "g"
 refine zah Fo (by walk_at "m") (za6 (n := "max") (kg hK 118) zbq (by decide)) ?_
 have hd1 := hd.new (.dict (zbv t m D (parts + many * p) levels))
 walk_at "g"
 refine zaq (.tail _ (hx _)) (.tail _ hd1) (by delta zbv; walk_at "m") ?_ pc (fi _ (by walk_at "m"))
 walk_at "g"
 refine ⟨zap, zd6 hh2 ?_⟩
 walk_at "g"
 refine zam (es' := zbv t m D (parts + many * p) (max levels q)) (.tail _ (hx _)) (.tail (zbB hd _)) pc (ta _ (by walk_at "m")) (fun rk nd r => zbe nz4 rk nd r) (by simp [zbv]) ?_
 walk_at "g"
 exact ⟨_, Le.skip Le.refl, h⟩
theorem zkY : bootBuiltins "Exception" = some (.type "Exception") := by decide +kernel
theorem zoE : ∀ K, findCls K (.type "Exception") (.type "type") "__init__" = some (.val (.builtin "Exception.__init__")) := by intro K; kernel_rfl
theorem zfE {B : zan} {A : Around} {e : Env} {l : Led} {Ψ : XQ} {Θ : Fl → Led → Prop} (hK : KF B.K) {L x t : Addr} {msg spot : AV}
  (Fo : zaf e L ["self", "message", "spot"] ["Exception"] [] [])
  (h : ∀ d v, Θ .next ((d, zaa.dict [("message", msg), ("spot", spot)]) :: (L, zaa.ns [("self", some (.ref x)), ("message", some msg), ("spot", some spot)]) :: (x, zaa.raw (zd2 64 (some d) (.ref v))) :: l)) :
  Ex B A e ((L, zaa.ns [("self", some (.ref x)), ("message", some msg), ("spot", some spot)]) :: (x, zaa.raw (zd2 64 none (.ref t))) :: l) zp2 Θ Ψ := by
 show Ex _ _ _ _ (_ :: _) _ _
 walk_at "g"
 refine zah Fo (by walk_at "m") (zaO (n := "Exception") (kg hK 163) zkY (by decide)) ?_
 refine zhB zoE ?_
 walk_at "g"
 refine ⟨zap, zhK ((kg hK 155)) ((kg hK 156)) (.tail .head) fun t1 => ?_⟩
 walk_at "g"
 refine zln uz1 ((kg hK 155)) ((kg hK 161)) fun d => ?_
 walk_at "g"
 refine zlm (es' := [("message", msg), ("spot", spot)]) mz2 .head ((kg hK 155)) ((kg hK 162)) (fun rk nd r => zae rk (zak ["message"] rfl (by decide)) r) (by simp) ?_
 walk_at "g"
 exact h d t1
theorem zlQ {B : zan} {A : Around} {l : Led} {Ψ : XQ} {Φ : EQ} (hK : KF B.K) (hr : A.depth + 2 < recursionLimit) {msg spot : AV}
  (h : ∀ x d v, Φ (.ref x) ((d, zaa.dict [("message", msg), ("spot", spot)]) :: (x, zaa.raw (zd2 64 (some d) (.ref v))) :: l)) : zaZ B A (.ref 64) [msg, spot] l Φ Ψ := by
 refine zmC ((kg hK 156)) ((kg hK 157)) ((kg hK 158)) (by simp) fun A' x t a1 a2 a3 a4 => zab ?_
 refine zeg hK (by walk_at "d") fun L e hf hc Fo => ?_
 refine zfE hK Fo fun d v => ?_
 exact ⟨_, lz0 (Le.skip Le.refl), rfl, h x d v⟩
theorem zkL {B : zan} {A : Around} {l : Led} {Ψ : XQ} {Φ : EQ} (hK : KF B.K) (hr : A.depth + 2 < recursionLimit) {msg : AV}
  (h : ∀ x d v, Φ (.ref x) ((d, zaa.dict [("message", msg), ("spot", .int 0)]) :: (x, zaa.raw (zd2 64 (some d) (.ref v))) :: l)) : zaZ B A (.ref 64) [msg] l Φ Ψ := by
 refine zmC ((kg hK 156)) ((kg hK 157)) ((kg hK 158)) (by simp) fun A' x t a1 a2 a3 a4 => zab ?_
 refine zdL hK (by walk_at "d") fun L e hf hc Fo => ?_
 refine zfE hK Fo fun d v => ?_
 exact ⟨_, lz0 (Le.skip Le.refl), rfl, h x d v⟩
mutual
noncomputable def szT (σ : Str → Option (Int × Int)) : Ty → Option (Int × Int)
 | .leaf _ => some (1, 1)
 | .named p => σ p
 | .arr n t => zaU [(szT σ t, max 1 n)]
 | .struct fs => zaU (zk1 σ fs)
noncomputable def zk1 (σ : Str → Option (Int × Int)) : List (Str × Ty) → List (Option (Int × Int) × Int)
 | [] => []
 | (_, t) :: r => (szT σ t, 1) :: zk1 σ r
end
mutual
noncomputable def zbd (c : Str → Nat) : Ty → Nat
 | .leaf _ => 2
 | .named p => c p
 | .arr _ t => 2 + zbd c t
 | .struct fs => 2 + zcp c fs
noncomputable def zcp (c : Str → Nat) : List (Str × Ty) → Nat
 | [] => 0
 | (_, t) :: r => zbd c t + zcp c r
end
structure zk8 (env : Str → Option Ty) (σ : Str → Option (Int × Int)) (c : Str → Nat) : Prop where
 sz : ∀ p T, env p = some T → σ p = szT σ T
 co : ∀ p T, env p = some T → zbd c T ≤ c p
noncomputable abbrev kv (σ : Str → Option (Int × Int)) (k : Ty × Int) : Option (Int × Int) × Int := (szT σ k.1, k.2)
theorem zhf (σ : Str → Option (Int × Int)) : ∀ fs : List (Str × Ty), zk1 σ fs = (fs.map fun f => (f.2, (1 : Int))).map (kv σ)
 | [] => rfl
 | (_, t) :: r => by show (szT σ t, (1 : Int)) :: zk1 σ r = _; rwa [zhf σ r]; rfl
theorem zjS (σ : Str → Option (Int × Int)) {U : Ty} (h : zaV U) : szT σ U = zaU ((zg7 U).map (kv σ)) := by
 cases U with
 | named p => exact h.elim
 | leaf v => show some (1, 1) = zaU []; decide
 | arr n t => rfl
 | struct fs => show zaU (zk1 σ fs) = _; rwa [zhf]; rfl
noncomputable def zgd (c : Str → Nat) (ks : List (Ty × Int)) : Nat := (ks.map fun k => zbd c k.1).sum
theorem zgV (c : Str → Nat) : ∀ fs : List (Str × Ty), zcp c fs = zgd c (fs.map fun f => (f.2, (1 : Int)))
 | [] => rfl
 | (_, t) :: r => by show zbd c t + zcp c r = _; rwa [zgV c r]; simp [zgd]
theorem zgT (c : Str → Nat) {U : Ty} (h : zaV U) : 2 + zgd c (zg7 U) = zbd c U := by
 cases U with
 | named p => exact h.elim
 | leaf v => rfl
 | arr n t => simp [zgd, zg7, zbd]
 | struct fs => show _ = 2 + zcp c fs; rwa [zgV]; rfl
noncomputable def fin (σ : Str → Option (Int × Int)) : List (Ty × Int) → Int → Int → Option (Int × Int)
 | [], P, L => if max 1 P > 2 ^ 20 ∨ L + 1 > 60 then none else some (max 1 P, L + 1)
 | k :: r, P, L => match szT σ k.1 with
  | none => none
  | some q => fin σ r (P + k.2 * q.1) (max L q.2)
theorem zot (L a b : Int) : max (max L a) b = max (max L b) a := (Int.max_assoc L a b).trans ((congrArg (max L) (Int.max_comm a b)).trans (Int.max_assoc L b a).symm)
theorem zin (σ : Str → Option (Int × Int)) (k : Ty × Int) : ∀ (ks : List (Ty × Int)) (P L : Int), fin σ (ks ++ [k]) P L = match szT σ k.1 with
  | none => none
  | some q => fin σ ks (P + k.2 * q.1) (max L q.2)
 | [], P, L => by show fin σ [k] P L = _; unfold fin; cases szT σ k.1 <;> rfl
 | j :: ks, P, L => by
  show fin σ (j :: (ks ++ [k])) P L = _
  unfold fin
  cases hj : szT σ j.1 with
  | none => cases szT σ k.1 <;> rfl
  | some q =>
   dsimp only
   rwa [zin σ k ks]
   cases szT σ k.1 with
   | none => rfl
   | some z =>
    dsimp only
    rwa [Int.add_right_comm P (j.2 * q.1), zot L q.2]
theorem zio (σ : Str → Option (Int × Int)) : ∀ (ks : List (Ty × Int)) (P L : Int), fin σ ks P L = if (ks.map (kv σ)).any (fun r => r.1.isNone) = true then none
  else if max 1 (P + ((ks.map (kv σ)).map zbw).sum) > 2 ^ 20 ∨ ((ks.map (kv σ)).map lvF).foldl max L + 1 > 60 then none else some (max 1 (P + ((ks.map (kv σ)).map zbw).sum), ((ks.map (kv σ)).map lvF).foldl max L + 1)
 | [], P, L => by unfold fin; simp
 | k :: ks, P, L => by
  unfold fin
  rwa [List.map_cons, List.any_cons, List.map_cons, List.map_cons, List.sum_cons, List.foldl_cons]
  cases hk : szT σ k.1 with
  | none => simp [kv, hk]
  | some q =>
   dsimp only
   rwa [zio σ ks]
   have e1 : zbw (kv σ k) = k.2 * q.1 := by simp [zbw, kv, hk]
   have e2 : lvF (kv σ k) = q.2 := by simp [lvF, kv, hk]
   have e3 : (kv σ k).1.isNone = false := by simp [kv, hk]
   rwa [e1, e2, e3, Bool.false_or, Int.add_assoc]
theorem zlP (σ : Str → Option (Int × Int)) (ks : List (Ty × Int)) : fin σ ks 0 0 = zaU (ks.map (kv σ)) := by
 rwa [zio]
 unfold zaU
 rwa [Int.zero_add, Int.add_comm 1]
theorem zen {σ : Str → Option (Int × Int)} : ∀ {ks : List (Ty × Int)} {P L : Int} {z : Int × Int}, fin σ ks P L = some z → L + 1 ≤ z.2 ∧ z.2 ≤ 60 ∧ 1 ≤ z.1 ∧ z.1 ≤ 2 ^ 20
 | [], P, L, z, h => by
  unfold fin at h
  split at h
  ·cases h
  ·cases h; dsimp only; walk_at "o"
 | k :: r, P, L, z, h => by
  unfold fin at h
  split at h
  ·cases h
  ·have := zen h; walk_at "o"
structure ze9 where
 x : Addr
 d : Addr
 D : Addr
 T : Ty
 many : Int
 left : List (Ty × Int)
 parts : Int
 levels : Int
noncomputable def zgk (σ : Str → Option (Int × Int)) : ze9 → List ze9 → Prop
 | _, [] => True
 | a, r :: rest => szT σ r.T = (match szT σ a.T with
   | none => none
   | some q => fin σ r.left (r.parts + a.many * q.1) (max r.levels q.2)) ∧ zgk σ r rest
noncomputable def zk5 : ze9 → List ze9 → Ty
 | a, [] => a.T
 | _, r :: rest => zk5 r rest
theorem zdS {σ : Str → Option (Int × Int)} : ∀ {a : ze9} {rest : List ze9}, zgk σ a rest → szT σ a.T = none → szT σ (zk5 a rest) = none
 | a, [], _, h => h
 | a, r :: rest, hc, h => by
  refine xA hc fun h1 h2 => ?_
  clear hc
  rw [h] at h1
  show szT σ (zk5 r rest) = none
  exact zdS (a := r) (rest := rest) h2 h1
theorem zfK {σ : Str → Option (Int × Int)} : ∀ {a : ze9} {rest : List ze9} {z : Int × Int}, zgk σ a rest → szT σ (zk5 a rest) = some z → ∃ q, szT σ a.T = some q ∧ (q.2 ≤ 60 → q.2 + rest.length ≤ z.2 ∧ z.2 ≤ 60)
 | a, [], z, _, h => (iEA z h (fun q => by simp; walk_at "o"))
 | a, r :: rest, z, hc, h => by
  refine xA hc fun h1 h2 => ?_
  clear hc
  refine xEA (zfK (a := r) (rest := rest) h2 h) fun q hq hz => ?_
  rw [hq] at h1
  cases ha : szT σ a.T with
  | none => rw [ha] at h1; cases h1
  | some y =>
   rw [ha] at h1
   have h3 := zen h1.symm
   have h4 := hz h3.2.1
   exact (iEA y rfl (fun _ => by rwa [List.length_cons]; walk_at "o"))
theorem ze2 {σ : Str → Option (Int × Int)} {a b : ze9} {rest : List ze9} (h : zgk σ a rest) (e1 : a.T = b.T) (e2 : a.many = b.many) : zgk σ b rest := by
 cases rest with
 | nil => trivial
 | cons r t => unfold zgk at h ⊢; rwa [← e1, ← e2]; exact h
theorem zhM {a b : ze9} {rest : List ze9} (e1 : a.T = b.T) : zk5 a rest = zk5 b rest := by
 cases rest with
 | nil => exact e1
 | cons r t => rfl
noncomputable def zht (c : Str → Nat) (st : List ze9) : Nat := (st.map fun r => 1 + zgd c r.left).sum
noncomputable def zoP (r : ze9) : Led := [(r.D, zaa.list (r.left.map zcr)), (r.x, zaa.inst 131 r.d), (r.d, zaa.dict (zbv (zaC r.T) r.many r.D r.parts r.levels))]
noncomputable def zdt : List ze9 → Led
 | [] => []
 | r :: t => zoP r ++ zdt t
theorem zjD {env : Str → Option Ty} {U : Ty} (h : Wf env U) : ∀ k ∈ zg7 U, Wf env k.1 := by
 cases U with
 | named p => intro k hk; cases hk
 | leaf v => intro k hk; cases hk
 | arr n t => intro k hk; rwa [List.mem_singleton.mp hk]; exact h.2
 | struct fs =>
  intro k hk
  refine xEA (List.mem_map.mp hk) fun f hf yq248 => ?_
  subst yq248
  have h2 : Wf.WfL env fs := h.2
  clear h hk
  induction fs with
  | nil => cases hf
  | cons g r ih =>
   obtain ⟨n, t⟩ := g
   rcases List.mem_cons.mp hf with rfl | hf
   ·exact h2.1
   ·exact ih hf h2.2
theorem zgU {env : Str → Option Ty} {σ : Str → Option (Int × Int)} {c : Str → Nat} (W : zk8 env σ c) (hok : ∀ p T, env p = some T → zaV T ∧ Wf env T) {T U : Ty} (hU : zg3 env T = some U) : 2 + zgd c (zg7 U) ≤ zbd c T := by
 cases T with
 | named p => rwa [zgT c (hok p U hU).1]; exact W.co p U hU
 | _ => cases hU; exact Nat.le_of_eq (zgT c trivial)
theorem zcH {env : Str → Option Ty} {T : Ty} (h : Wf env T) : ∃ U, zg3 env T = some U := by
 cases T with
 | named p => exact Option.isSome_iff_exists.mp h
 | _ => exact ⟨_, rfl⟩
theorem zgg {env : Str → Option Ty} (hok : ∀ p T, env p = some T → zaV T ∧ Wf env T) {T U : Ty} (h : Wf env T) (hU : zg3 env T = some U) : zaV U ∧ Wf env U := by
 cases T with
 | named p => exact hok p U hU
 | _ => cases hU; exact ⟨trivial, h⟩
theorem zhe {env : Str → Option Ty} {σ : Str → Option (Int × Int)} {c : Str → Nat} (W : zk8 env σ c) (hok : ∀ p T, env p = some T → zaV T ∧ Wf env T) {T U : Ty} (hU : zg3 env T = some U) : szT σ T = fin σ (zg7 U) 0 0 := by
 rwa [zlP]
 cases T with
 | named p => show σ p = _; rwa [W.sz p U hU]; exact zjS σ (hok p U hU).1
 | _ => cases hU; exact zjS σ trivial
theorem zfG (c : Str → Nat) (ks : List (Ty × Int)) (k : Ty × Int) : zgd c (ks ++ [k]) = zgd c ks + zbd c k.1 := by simp [zgd]
theorem zjh {B : zan} {A : Around} {env : Env} {l l' : Led} {ss : List Stmt} {Θ : Fl → Led → Prop} {Ψ : XQ} (h : Le l' l) (x : Ex B A env l' ss Θ Ψ) : Ex B A env l ss Θ Ψ := .mk fun s G => x.go s (G.le h)
theorem zmy {B : zan} {A : Around} {env : Env} {l l' : Led} {ss : Stmt} {Θ : Fl → Led → Prop} {Ψ : XQ} (h : Le l' l) (x : Ex1 B A env l' ss Θ Ψ) : Ex1 B A env l ss Θ Ψ := .mk fun s G => x.go s (G.le h)
theorem znC {B : zan} {A : Around} {env : Env} {l : Led} {pos : Pos} {k : Nat} {Φ : Bool → Led → Prop} {Ψ : XQ} (h : Φ true l) : Bv B A env l (.Constant (.bool true) k pos) Φ Ψ :=
 zcq (zkP (zmO h)) (by intro _; rfl)
theorem zcJ {B : zan} {x : Str} {i : Int} (q : zeS B.K x i = true) : zpS B x (.int i) := by
 unfold zeS at q
 cases e : nsIn B.K mainGlobals x with
 | none => rw [e] at q; exact xB q
 | some o =>
  cases o with
  | none => rw [e] at q; exact xB q
  | some v => rw [e] at q; exact ⟨v, e, fun _ _ => zig q⟩
noncomputable def zaQ (env : Str → Option Ty) (σ : Str → Option (Int × Int)) (es : List (Str × AV)) : Prop := ∀ p v, (p, v) ∈ es → ∃ q, v = .tup [.int q.1, .int q.2] ∧ σ p = some q ∧ (env p).isSome = true
noncomputable def zbC (es es' : List (Str × AV)) : Prop := ∀ k, k ∈ es.map (·.1) → k ∈ es'.map (·.1)
structure znJ (env : Str → Option Ty) (r : ze9) : Prop where
 T : Wf env r.T
 left : ∀ k ∈ r.left, Wf env k.1
 len : r.left.length ≤ 100
noncomputable def zjO : Ty → List (Str × AV) → Prop
 | .named p, es => p ∈ es.map (·.1)
 | _, _ => True
noncomputable def zhP (env : Str → Option Ty) (σ : Str → Option (Int × Int)) (c : Str → Nat) (L w wy kn : Addr) (T0 : Ty) (spot : AV) (es0 : List (Str × AV)) (r : Led) (n : Nat) (l : Led) : Prop :=
 ∃ (top : ze9) (rest : List ze9) (es : List (Str × AV)) (hv iv mv tv : Option AV), n = zht c (top :: rest) ∧ rest.length < 60 ∧ (∀ r ∈ top :: rest, znJ env r) ∧ szT σ top.T = fin σ top.left top.parts top.levels ∧ zgk σ top rest ∧ zk5 top rest = T0 ∧
  zaQ env σ es ∧ zbC es0 es ∧
  l = (L, zaa.ns [("world", some (.ref w)), ("T", some (zaC T0)), ("known", some (.ref kn)), ("spot", some spot), ("way", some (.ref wy)), ("here", hv), ("inner", iv), ("many", mv), ("told", tv)]) ::
   (wy, zaa.list ((rest.map fun r => AV.ref r.x).reverse ++ [.ref top.x])) :: (top.D, zaa.list (top.left.map zcr)) :: (top.x, zaa.inst 131 top.d) :: (top.d, zaa.dict (zbv (zaC top.T) top.many top.D top.parts top.levels)) :: (zdt rest ++ (kn, zaa.dict es) :: r)
theorem zj0 {env : Str → Option Ty} {σ : Str → Option (Int × Int)} {c : Str → Nat} {L w wy kn : Addr} {T0 : Ty} {spot : AV} {es0 : List (Str × AV)} {r : Led} {m : Nat} {l : Led} (top : ze9) (rest : List ze9) (es : List (Str × AV)) (hv iv mv tv : Option AV) (h1 : m = zht c (top :: rest)) (h2 : rest.length < 60) (h3 : ∀ r ∈ top :: rest, znJ env r) (h4 : szT σ top.T = fin σ top.left top.parts top.levels) (h5 : zgk σ top rest) (h6 : zk5 top rest = T0) (h7 : zaQ env σ es) (h8 : zbC es0 es) (h9 : l = (L, zaa.ns [("world", some (.ref w)), ("T", some (zaC T0)), ("known", some (.ref kn)), ("spot", some spot), ("way", some (.ref wy)), ("here", hv), ("inner", iv), ("many", mv), ("told", tv)]) ::
   (wy, zaa.list ((rest.map fun r => AV.ref r.x).reverse ++ [.ref top.x])) :: (top.D, zaa.list (top.left.map zcr)) :: (top.x, zaa.inst 131 top.d) :: (top.d, zaa.dict (zbv (zaC top.T) top.many top.D top.parts top.levels)) :: (zdt rest ++ (kn, zaa.dict es) :: r)) : zhP env σ c L w wy kn T0 spot es0 r m l := ⟨top, rest, es, hv, iv, mv, tv, h1, h2, h3, h4, h5, h6, h7, h8, h9⟩
theorem zfW {env : Str → Option Ty} {σ : Str → Option (Int × Int)} {c : Str → Nat} {L w wy kn : Addr} {T0 : Ty} {spot : AV} {es0 : List (Str × AV)} {r : Led} {m n : Nat} {l0 : Led} (l : Led) (hn : m < n) (hl : Le l l0) (top : ze9) (rest : List ze9) (es : List (Str × AV)) (hv iv mv tv : Option AV) (h1 : m = zht c (top :: rest)) (h2 : rest.length < 60) (h3 : ∀ r ∈ top :: rest, znJ env r) (h4 : szT σ top.T = fin σ top.left top.parts top.levels) (h5 : zgk σ top rest) (h6 : zk5 top rest = T0) (h7 : zaQ env σ es) (h8 : zbC es0 es) (h9 : l = (L, zaa.ns [("world", some (.ref w)), ("T", some (zaC T0)), ("known", some (.ref kn)), ("spot", some spot), ("way", some (.ref wy)), ("here", hv), ("inner", iv), ("many", mv), ("told", tv)]) ::
   (wy, zaa.list ((rest.map fun r => AV.ref r.x).reverse ++ [.ref top.x])) :: (top.D, zaa.list (top.left.map zcr)) :: (top.x, zaa.inst 131 top.d) :: (top.d, zaa.dict (zbv (zaC top.T) top.many top.D top.parts top.levels)) :: (zdt rest ++ (kn, zaa.dict es) :: r)) : zjs (zhP env σ c L w wy kn T0 spot es0 r) n l0 := ⟨m, l, hn, hl, zj0 top rest es hv iv mv tv h1 h2 h3 h4 h5 h6 h7 h8 h9⟩
noncomputable def zqK (env : Str → Option Ty) (σ : Str → Option (Int × Int)) (kn : Addr) (spot : AV) (es0 : List (Str × AV)) (r : Led) (Ψ : XQ) : Prop :=
 ∀ x d msg es, zaQ env σ es → zbC es0 es → Ψ ⟨x, 64, d⟩ ((x, zaa.exc 64 d) :: (d, zaa.dict [("message", msg), ("spot", spot)]) :: (kn, zaa.dict es) :: r)
theorem zfZ {B : zan} {A : Around} {e : Env} {l : Led} {Ψ : XQ} {Θ : Fl → Led → Prop} (hK : KF B.K) (hr : A.depth + 2 < recursionLimit) (hh : A.handled = none) {L : Addr} {ls gs : List Str} {cl fl : List (Str × Addr)} {np p1 p2 p3 pos : Pos} {k : Nat} {text : Str} {spot : AV} {m : List (Str × Option AV)}
  (Fo : zaf e L ls gs cl fl) (hg : ("TypeFault" : Str) ∈ gs) (hl : ("spot" : Str) ∈ ls) (hm : (L, zaa.ns m) ∈ l) (hs : (("spot" : Str), some spot) ∈ m)
  (h : ∀ x d, Ψ ⟨x, 64, d⟩ ((x, zaa.exc 64 d) :: (d, zaa.dict [("message", .str text), ("spot", spot)]) :: l)) (hp : ∀ X l' l'', Ψ X l' → Le l' l'' → Ψ X l'') :
  Ex1 B A e l (.Raise (some (.Call (.Name "TypeFault" np) [.Constant (.str text) k p1, .Name "spot" p2] [] p3)) none pos) Θ Ψ := by
 refine zjy hh ?_
 walk_at "g"
 refine zal Fo hg (zad (kg hK 160)) ?_
 walk_at "g"
 refine ⟨zac (kg hK 159), zlQ hK hr fun x d v => ?_⟩
 refine ⟨x, 64, d, .ref v, _, rfl, (kg hK 156), .tail .head, ?_⟩
 exact hp _ _ _ (h x d) (lz1 (lz0 Le.refl))
theorem zk9 {A : Around} {e : Env} {Ψ : XQ} {X : XV} {l l' : Led} (h : Xp A e Ψ X l) (hl : Le l l') : Xp A e Ψ X l' := by
 refine zn8 h fun yq249 l2 h3 h4 => ?_
 clear h
 obtain ⟨o, h1, h2⟩ := yq249
 exact ⟨(iEA o h1 (h2.le hl.mem)), l2, h3.trans hl, h4⟩
theorem zie {env : Str → Option Ty} {U : Ty} (h : Wf env U) : (zg7 U).length ≤ 100 := by
 cases U with
 | struct fs => show (fs.map _).length ≤ 100; rw [List.length_map]; exact h.1
 | _ => simp [zg7]
theorem zl1 {env : Str → Option Ty} {σ : Str → Option (Int × Int)} {c : Str → Nat} (W : zk8 env σ c) (hok : ∀ p T, env p = some T → zaV T ∧ Wf env T) {T : Ty} (hT : Wf env T) : 2 ≤ zbd c T := by
 refine xE (zcH hT) fun U hU => ?_
 have := zgU W hok hU
 walk_at "o"
theorem zes {env : Str → Option Ty} {σ : Str → Option (Int × Int)} {c : Str → Nat} (W : zk8 env σ c) (hok : ∀ p T, env p = some T → zaV T ∧ Wf env T) {T : Ty} (hT : Wf env T) {y : Int × Int} (h : szT σ T = some y) : 1 ≤ y.2 ∧ y.2 ≤ 60 ∧ 1 ≤ y.1 ∧ y.1 ≤ 2 ^ 20 := by
 refine xE (zcH hT) fun U hU => ?_
 rw [zhe W hok hU] at h
 have := zen h
 walk_at "o"
theorem ze0 {es : List (Str × AV)} {k : Str} {v : AV} (h : dictAt es k = some v) : (k, v) ∈ es := by
 induction es with
 | nil => cases h
 | cons p r ih =>
  unfold dictAt at h
  split at h
  ·rename_i e; cases h; rw [← e]; exact .head _
  ·exact .tail _ (ih h)
theorem zmi {es : List (Str × AV)} {k : Str} (h : k ∈ es.map (·.1)) : ∃ v f, UpN es k v f := by
 induction es with
 | nil => cases h
 | cons p r ih =>
  obtain ⟨x, v⟩ := p
  rw [List.map_cons] at h
  rcases List.mem_cons.mp h with e | h
  ·have e' : k = x := e
   subst e'; exact (iEE v _ .head)
  ·refine xEE (ih h) fun v f u => ?_
   exact (iEE v _ (.tail u))
theorem zlf {es : List (Str × AV)} {k : Str} {v : AV} {f : AV → List (Str × AV)} (u : UpN es k v f) (v' : AV) : ∀ p ∈ f v', p = (k, v') ∨ p ∈ es := by
 induction u with
 | head =>
  intro p hp
  refine mcE hp ?_ fun p hp => ?_
  ·exact .inl rfl
  ·exact .inr (.tail _ hp)
 | tail _ ih =>
  intro p hp
  refine mcE hp ?_ fun p hp => ?_
  ·exact .inr (.head _)
  ·exact (ih p hp).imp id (.tail _)
theorem zgK {env : Str → Option Ty} {σ : Str → Option (Int × Int)} {es : List (Str × AV)} (hes : zaQ env σ es) {p : Str} {q : Int × Int} (hq : σ p = some q) (hp : (env p).isSome = true) :
  ∃ es', zaQ env σ es' ∧ zbC es es' ∧ p ∈ es'.map (·.1) ∧ ∀ {h : Heap} {kvs : List (Str × Value)} {vv : Value}, KvR h kvs es → (es.map (·.1)).Nodup → VR h vv (.tup [.int q.1, .int q.2]) → KvR h (stored kvs p vv) es' := by
 by_cases hm : p ∈ es.map (·.1)
 ·refine xEE (zmi hm) fun v f u => ?_
  refine (zfh (f (.tup [.int q.1, .int q.2])) (fun k x hx => ?_) (fun k hk => by rwa [u.keys]; exact hk) (by rwa [u.keys]; exact hm) (fun rk nd r => zbe u rk nd r))
  rcases zlf u _ _ hx with e | hx
  ·cases e; exact (ze8 q rfl hq hp)
  ·exact hes k x hx
 ·refine (zfh (es ++ [(p, .tup [.int q.1, .int q.2])]) (fun k x hx => ?_) (fun k hk => by rwa [List.map_append]; exact List.mem_append_left _ hk) (by rwa [List.map_append]; exact List.mem_append_right _ (.head _)) (fun rk nd r => zae rk hm r))
  rcases List.mem_append.mp hx with hx | hx
  ·exact hes k x hx
  ·cases List.mem_singleton.mp hx; exact (ze8 q rfl hq hp)
set_option maxHeartbeats 4000000 in
theorem zjZ {B : zan} {A : Around} {r : Led} {Ψ : XQ} {Φ : EQ} (hK : KF B.K) (hr : A.depth + 8 < recursionLimit) (hh : A.handled = none) (hu : A.units + 80 < cLine) {fr : List Env} (hfr : A.frames = some fr) (F : FrL r fr)
  {env : Str → Option Ty} {σ : Str → Option (Int × Int)} {c : Str → Nat} (W : zk8 env σ c) {w kn : Addr} {T0 : Ty} {spot : AV} {es0 : List (Str × AV)} (hW : zgj w env r) (hT : Wf env T0) (hes : zaQ env σ es0) (hz : ∀ es, zaQ env σ es → (es.map (·.1)).Nodup → es.length ≤ 1000)
  (h1 : ∀ q es, szT σ T0 = some q → zaQ env σ es → zbC es0 es → zjO T0 es → Φ (.tup [.int q.1, .int q.2]) ((kn, zaa.dict es) :: r))
  (h2 : szT σ T0 = none → zqK env σ kn spot es0 r Ψ) : Fn B A (.ref 142) [.ref w, zaC T0, .ref kn, spot] ((kn, zaa.dict es0) :: r) Φ Ψ := by
 refine zj6 hK (by walk_at "d") fun L e hf hc Fo => ?_
 show Ex _ _ _ _ (_ :: _) _ _
 have hh2 : (A.deeper e).handled = none := hh
 have hfr2 : (A.deeper e).frames = some (e :: fr) := by show A.frames.map (e :: ·) = _; rw [hfr]; rfl
 refine xE (zcH hT) fun U0 hU0 => ?_
 have W0 := hW.ok
 have hU0ok := zgg W0 hT hU0
 have pc : zaj B.K 131 = true := (kg hK 135)
 have fi : ∀ x ∈ (["T", "many", "left", "parts", "levels"] : List Str), findIn B.K (.ref 131) x = some none := (kg hK 154)
 walk_at "g"
 refine zal Fo (by walk_at "m") (zad (kg hK 149)) ?_
 walk_at "g"
 refine ⟨zac (kg hK 148), zab (zmo hK (by walk_at "d") hh2 (by walk_at "d") (hW.up fun p hp => .tail _ (.tail _ hp)) hT hU0 fun x d D => ?_)⟩
 walk_at "g"
 intro wy
 walk_at "g"
 refine zmy (l' := (L, zaa.ns [("world", some (.ref w)), ("T", some (zaC T0)), ("known", some (.ref kn)), ("spot", some spot), ("way", some (.ref wy)), ("here", none), ("inner", none), ("many", none), ("told", none)]) :: (wy, zaa.list [.ref x]) :: (D, zaa.list ((zg7 U0).map zcr)) :: (x, zaa.inst 131 d) :: (d, zaa.dict (zbv (zaC T0) 1 D 0 0)) :: (kn, zaa.dict es0) :: r) (by walk_at "e") ?_
 refine zdy (zhP env σ c L w wy kn T0 spot es0 r) (zht c [⟨x, d, D, T0, 1, zg7 U0, 0, 0⟩]) (fun X l h => h.1) (zj0 ⟨x, d, D, T0, 1, zg7 U0, 0, 0⟩ [] es0 none none none none rfl (by decide) ?_ (zhe W W0 hU0) trivial rfl hes (fun k h => h) rfl) fun n l' hI => ?_
 ·intro q hq
  rwa [List.mem_singleton.mp hq]
  exact ⟨hT, zjD hU0ok.2, zie hU0ok.2⟩
 refine zea hI fun top rest es hv iv mv tv yq250 hlen hrows htop hch hbot hkn hsk yq251 => ?_
 clear hI
 subst yq250
 subst yq251
 have htw := hrows top (.head _)
 refine znC ?_
 refine zjH rfl ?_
 walk_at "g"
 refine zcf mz1 ?_ (by intro _ _; walk_at "r")
 walk_at "g"
 refine zaq (by walk_at "m") (by walk_at "m") (by delta zbv; walk_at "m") ?_ pc (fi _ (by walk_at "m"))
 walk_at "g"
 intro Z
 refine zbT mz3 (.head _) (by walk_at "d") ?_
 walk_at "g"
 refine zce (fun q => ?_) (fun q => ?_)
 ·have hne : top.left ≠ [] := by intro e; rw [e] at q; cases q
  obtain ⟨ks, k, hks⟩ : ∃ ks k, top.left = ks ++ [k] := ⟨top.left.dropLast, top.left.getLast hne, (List.dropLast_concat_getLast hne).symm⟩
  have hkw : Wf env k.1 := htw.left k (by rwa [hks]; exact List.mem_append_right _ (.head _))
  have hkl : ∀ j ∈ ks, Wf env j.1 := fun j hj => htw.left j (by rwa [hks]; exact List.mem_append_left _ hj)
  rw [hks, zin] at htop
  rwa [hks, List.map_append]
  show Ex _ _ _ (_ :: _ :: _ :: (_, zaa.list (ks.map zcr ++ [zcr k])) :: _) _ _ _
  refine zai ?_
  refine zaL ?_ (by walk_at "r") (by walk_at "r")
  walk_at "s"
  refine zaq (by walk_at "m") (by walk_at "m") (by delta zbv; walk_at "m") ?_ pc (fi _ (by walk_at "m"))
  refine zfC (by walk_at "m") ?_
  walk_at "s"
  refine ⟨zap, zfJ uz3 (by have := htw.len; rw [hks] at this; simp at this; rw [List.length_map]; walk_at "o") ?_⟩
  show As _ _ _ _ (.tup [zaC k.1, .int k.2]) _ _ _
  walk_at "s"
  refine zai ?_
  refine zhS ?_ (by walk_at "r")
  refine zkQ (P := fun a => a = .none ∨ ∃ q : Int × Int, a = .tup [.int q.1, .int q.2] ∧ szT σ k.1 = some q) ?_ ?_
  ·have shape : (∃ p, k.1 = .named p) ∨ zaV k.1 := by
    cases k.1 with
    | named p => exact .inl ⟨p, rfl⟩
    | _ => exact .inr trivial
   rcases shape with ⟨p, hkp⟩ | hkn'
   ·rwa [hkp]
    show Ev _ _ _ (_ :: (L, zaa.ns [("world", some (.ref w)), ("T", some (zaC T0)), ("known", some (.ref kn)), ("spot", some spot), ("way", some (.ref wy)), ("here", some (.ref top.x)), ("inner", some (.tup [.str "named", .str p])), ("many", some (.int k.2)), ("told", tv)]) :: _) _ _ _
    walk_at "g"
    refine zat ?_
    walk_at "g"
    refine zoA (by walk_at "m") ?_
    walk_at "g"
    refine ⟨zap, zoM (by walk_at "m") ?_⟩
    refine ⟨?_, rfl⟩
    cases hd : dictAt es p with
    | none => exact .inl rfl
    | some v =>
     refine zdx (hkn p v (ze0 hd)) fun y yq252 hy _ => ?_
     subst yq252
     exact .inr (iEA y rfl hy)
   ·refine zbE (zbu hkw hkn') fun us ur hus hnm => ?_
    rwa [hus]
    walk_at "g"
    refine zat ?_
    rwa [hnm]
    walk_at "g"
    exact ⟨.inl rfl, rfl⟩
  ·intro a ha
   walk_at "s"
   refine zai ?_
   walk_at "s"
   refine zaK ?_
   rcases ha with rfl | ⟨q', rfl, hq'⟩
   ·walk_at "s"
    refine zai ?_
    walk_at "s"
    refine zah Fo (by walk_at "m") (za6 (n := "len") (kg hK 117) (by decide +kernel) (by decide)) ?_
    walk_at "s"
    refine ⟨zap, zit (by walk_at "m") (by simp; walk_at "o") ?_⟩
    walk_at "s"
    refine zal Fo (by walk_at "m") (zcJ (kg hK 164)) ?_
    refine zi7 ?_
    walk_at "s"
    refine zce (fun q1 => ?_) (fun q1 => ?_)
    ·have hr59 : rest.length = 59 := by simp at q1; walk_at "o"
     have hno : szT σ T0 = none := by
      cases hz0 : szT σ T0 with
      | none => rfl
      | some z =>
       rw [← hbot] at hz0
       refine xEA (zfK hch hz0) fun y hy hyz => ?_
       rw [hy] at htop
       cases hk0 : szT σ k.1 with
       | none => rw [hk0] at htop; cases htop
       | some u =>
        rw [hk0] at htop
        have f1 := zen htop.symm
        have f2 := (zes W W0 hkw hk0).1
        have f3 := hyz f1.2.1
        walk_at "o"
     refine zai ?_
     refine zfZ hK (by walk_at "d") hh2 Fo (by walk_at "m") (by walk_at "m") (by walk_at "m") (by walk_at "m") (fun x d => ?_) (fun _ _ _ a b => zk9 a b)
     exact ⟨(iEA fr hfr2 (FrL.cons Fo.kind hf (by walk_at "m") (F.le fun p hp => by walk_at "m"))), _, (by walk_at "e" : Le ((x, zaa.exc 64 d) :: (d, zaa.dict [("message", _), ("spot", spot)]) :: (kn, zaa.dict es) :: r) _), .head _, h2 hno x d _ es hkn hsk⟩
    ·have hr59 : rest.length < 59 := by simp at q1; walk_at "o"
     refine xE (zcH hkw) fun Uk hUk => ?_
     have hUkok := zgg W0 hkw hUk
     refine zai ?_
     walk_at "s"
     refine zbb (by walk_at "m") ?_
     walk_at "s"
     refine zal Fo (by walk_at "m") (zad (kg hK 149)) ?_
     walk_at "s"
     refine ⟨zac (kg hK 148), zab (zmo hK (by walk_at "d") hh2 (by walk_at "d") (hW.up fun p hp => by walk_at "m") hkw hUk fun x' d' D' => ?_)⟩
     walk_at "s"
     refine ⟨zap, za3 uz5 (by simp; walk_at "o") ?_⟩
     walk_at "g"
     have cb := zgU W W0 hUk
     refine zfW ((L, zaa.ns [("world", some (.ref w)), ("T", some (zaC T0)), ("known", some (.ref kn)), ("spot", some spot), ("way", some (.ref wy)), ("here", some (.ref top.x)), ("inner", some (zaC k.1)), ("many", some (.int k.2)), ("told", some .none)]) :: (wy, zaa.list ((rest.map fun r => AV.ref r.x).reverse ++ [.ref top.x] ++ [.ref x'])) :: (D', zaa.list ((zg7 Uk).map zcr)) :: (x', zaa.inst 131 d') :: (d', zaa.dict (zbv (zaC k.1) k.2 D' 0 0)) ::
      (top.D, zaa.list (ks.map zcr)) :: (top.x, zaa.inst 131 top.d) :: (top.d, zaa.dict (zbv (zaC top.T) top.many top.D top.parts top.levels)) :: (zdt rest ++ (kn, zaa.dict es) :: r)) ?_ (by walk_at "e") ⟨x', d', D', k.1, k.2, zg7 Uk, 0, 0⟩ ({ top with left := ks } :: rest) es (some (.ref top.x)) (some (zaC k.1)) (some (.int k.2)) (some .none) rfl (by rwa [List.length_cons]; walk_at "o") ?_ (zhe W W0 hUk) ⟨htop, ze2 hch rfl rfl⟩ ?_ hkn hsk ?_
     ·unfold zht
      simp only [List.map_cons, List.sum_cons]
      rwa [hks, zfG]
      walk_at "o"
     ·intro a ha
      refine mcE ha ?_ fun a ha => ?_
      ·exact ⟨hkw, zjD hUkok.2, zie hUkok.2⟩
      ·refine mcE ha ?_ fun a ha => ?_
       ·exact ⟨htw.T, hkl, by have := htw.len; rw [hks] at this; simp at this; show ks.length ≤ 100; walk_at "o"⟩
       ·exact hrows a (.tail _ ha)
     ·show zk5 { top with left := ks } rest = T0
      rwa [← hbot]; exact zhM rfl
     ·rwa [List.map_cons, List.reverse_cons]; rfl
   ·walk_at "s"
    refine zai ?_
    walk_at "s"
    refine zao (by walk_at "m") (by walk_at "m") ((kg hK 150)) ((kg hK 151)) pc (zak ["T", "many", "left", "parts", "levels"] rfl (by decide)) ?_
    walk_at "s"
    refine ⟨zac (kg hK 152), zab (zhX hK (by walk_at "d") hh2 (f := fun c => _ :: _ :: _ :: _ :: _ :: (top.d, c) :: _) (fun _ => by walk_at "m") (by walk_at "m") (.tail (.tail (.tail (.tail (.tail .head))))) (by have := zes W W0 hkw hq'; walk_at "o") ?_)⟩
    walk_at "g"
    have cp := zl1 W W0 hkw
    rw [hq'] at htop
    refine zfW _ ?_ (Le.skip Le.refl) { top with left := ks, parts := top.parts + k.2 * q'.1, levels := max top.levels q'.2 } rest es _ _ _ _ rfl hlen ?_ htop (ze2 hch rfl rfl) ?_ hkn hsk rfl
    ·unfold zht
     simp only [List.map_cons, List.sum_cons]
     rwa [hks, zfG]
     walk_at "o"
    ·intro a ha
     refine mcE ha ?_ fun a ha => ?_
     ·exact ⟨htw.T, hkl, by have := htw.len; rw [hks] at this; simp at this; show ks.length ≤ 100; walk_at "o"⟩
     ·exact hrows a (.tail _ ha)
    ·rwa [← hbot]; exact zhM rfl
 ·have hnil : top.left = [] := by
   cases e : top.left with
   | nil => rfl
   | cons a b => rw [e] at q; cases q
  rw [hnil] at htop
  rwa [hnil]
  walk_at "g"
  refine zah Fo (by walk_at "m") (za6 (n := "max") (kg hK 118) zbq (by decide)) ?_
  walk_at "g"
  refine zaq (by walk_at "m") (by walk_at "m") (by delta zbv; walk_at "m") ?_ pc (fi _ (by walk_at "m"))
  walk_at "g"
  refine ⟨zap, zd6 hh2 ?_⟩
  walk_at "g"
  refine zaq (by walk_at "m") (by walk_at "m") (by delta zbv; walk_at "m") ?_ pc (fi _ (by walk_at "m"))
  walk_at "g"
  refine zal Fo (by walk_at "m") (zcJ (kg hK 165)) ?_
  walk_at "g"
  refine zce (fun q1 => ?_) (fun q1 => ?_)
  ·have hno : szT σ T0 = none := by
    rwa [← hbot]
    refine zdS hch ?_
    rwa [htop]; unfold fin
    rw [if_pos (.inl (by have := of_decide_eq_true q1; walk_at "o"))]
   walk_at "s"
   refine zai ?_
   refine zfZ hK (by walk_at "d") hh2 Fo (by walk_at "m") (by walk_at "m") (by walk_at "m") (by walk_at "m") (fun x d => ?_) (fun _ _ _ a b => zk9 a b)
   exact ⟨(iEA fr hfr2 (FrL.cons Fo.kind hf (by walk_at "m") (F.le fun p hp => by walk_at "m"))), _, (by walk_at "e" : Le ((x, zaa.exc 64 d) :: (d, zaa.dict [("message", _), ("spot", spot)]) :: (kn, zaa.dict es) :: r) _), .head _, h2 hno x d _ es hkn hsk⟩
  walk_at "g"
  refine zal Fo (by walk_at "m") (zcJ (kg hK 164)) ?_
  walk_at "g"
  refine zce (fun q2 => ?_) (fun q2 => ?_)
  ·have hno : szT σ T0 = none := by
    rwa [← hbot]
    refine zdS hch ?_
    rwa [htop]; unfold fin
    rw [if_pos (.inr (by have := of_decide_eq_true q2; walk_at "o"))]
   walk_at "s"
   refine zai ?_
   refine zfZ hK (by walk_at "d") hh2 Fo (by walk_at "m") (by walk_at "m") (by walk_at "m") (by walk_at "m") (fun x d => ?_) (fun _ _ _ a b => zk9 a b)
   exact ⟨(iEA fr hfr2 (FrL.cons Fo.kind hf (by walk_at "m") (F.le fun p hp => by walk_at "m"))), _, (by walk_at "e" : Le ((x, zaa.exc 64 d) :: (d, zaa.dict [("message", _), ("spot", spot)]) :: (kn, zaa.dict es) :: r) _), .head _, h2 hno x d _ es hkn hsk⟩
  have htop' : szT σ top.T = some (max 1 top.parts, top.levels + 1) := by
   rwa [htop]; unfold fin
   have a1 := of_decide_eq_false q1
   have a2 := of_decide_eq_false q2
   rw [if_neg (by walk_at "o")]
  walk_at "s"
  refine zai ?_
  refine zn3 (P := fun l1 => ∃ es', zaQ env σ es' ∧ zbC es0 es' ∧ zjO top.T es' ∧ l1 = (Z, zaa.list []) :: (L, zaa.ns [("world", some (.ref w)), ("T", some (zaC T0)), ("known", some (.ref kn)), ("spot", some spot), ("way", some (.ref wy)), ("here", some (.ref top.x)), ("inner", iv), ("many", mv), ("told", some (.tup [.int (max 1 top.parts), .int (top.levels + 1)]))]) :: (wy, zaa.list ((rest.map fun r => AV.ref r.x).reverse ++ [.ref top.x])) :: (top.D, zaa.list (List.map zcr [])) :: (top.x, zaa.inst 131 top.d) :: (top.d, zaa.dict (zbv (zaC top.T) top.many top.D top.parts top.levels)) :: (zdt rest ++ (kn, zaa.dict es') :: r)) ?_ ?_
  ·walk_at "s"
   refine zaq (by walk_at "m") (by walk_at "m") (by delta zbv; walk_at "m") ?_ pc (fi _ (by walk_at "m")) (zeT htw.T)
   have shape : (∃ p, top.T = .named p) ∨ zaV top.T := by
    cases top.T with
    | named p => exact .inl ⟨p, rfl⟩
    | _ => exact .inr trivial
   rcases shape with ⟨p, hkp⟩ | hkn'
   ·have hT2 := htw.T
    rw [hkp] at htop' hT2
    rwa [hkp]
    walk_at "s"
    show zjw _ _ _ _ (.tup [.str "named", .str p]) _ _ _ _
    walk_at "g"
    refine zat ?_
    walk_at "g"
    refine zaq (x := .tup [.str "named", .str p]) (by walk_at "m") (by walk_at "m") (by delta zbv; exact .head _) ?_ pc (fi _ (by walk_at "m"))
    walk_at "g"
    refine ziF (zgK hkn (q := (max 1 top.parts, top.levels + 1)) htop' hT2) fun es' e1 e2 e3 e4 => ?_
    refine zb6 (es' := es') (.tail (.tail (.tail (.tail (.tail (.tail (.app .head))))))) e4 (fun nd => by have := hz es hkn nd; walk_at "o") ?_
    walk_at "g"
    exact (zmu rfl es' e1 (fun k hk => e2 k (hsk k hk)) e3 rfl)
   ·refine zbE (zbu htw.T hkn') fun us ur hus hnm => ?_
    rwa [hus]
    walk_at "g"
    refine zat ?_
    rwa [hnm]
    walk_at "g"
    refine (zmu rfl es hkn hsk ?_ rfl)
    cases hq : top.T with
    | named p => rw [hq] at hkn'; exact hkn'.elim
    | _ => trivial
  ·intro l1 zq58
   revert l1
   refine zog fun es' hkn2 hsk2 htn => ?_
   walk_at "g"
   refine zfC (by walk_at "m") ?_
   walk_at "g"
   refine ⟨zap, zfJ uz2 (by simp; walk_at "o") ?_⟩
   walk_at "g"
   intro Z2
   refine zkf mz3 (.head _) (by walk_at "d") ?_
   walk_at "g"
   cases rest with
   | nil =>
    walk_at "g"
    change top.T = T0 at hbot
    subst hbot
    exact ⟨_, (by walk_at "e" : Le ((kn, zaa.dict es') :: r) _), h1 _ es' htop' hkn2 hsk2 htn⟩
   | cons r1 rest2 =>
    have hrev : ((r1 :: rest2).map fun r => AV.ref r.x).reverse = (rest2.map fun r => AV.ref r.x).reverse ++ [.ref r1.x] := by rw [List.map_cons, List.reverse_cons]
    have hcs : zdt (r1 :: rest2) ++ (kn, zaa.dict es') :: r = (r1.D, zaa.list (r1.left.map zcr)) :: (r1.x, zaa.inst 131 r1.d) :: (r1.d, zaa.dict (zbv (zaC r1.T) r1.many r1.D r1.parts r1.levels)) :: (zdt rest2 ++ (kn, zaa.dict es') :: r) := rfl
    rw [hrev, hcs, show ((rest2.map fun r => AV.ref r.x).reverse ++ [AV.ref r1.x]).isEmpty = false by simp]
    walk_at "g"
    refine zcf mz3 ?_ (by intro _ _; walk_at "r")
    refine zao (C := 131) (d := r1.d) (by walk_at "m") (by walk_at "m") ((kg hK 150)) ((kg hK 151)) pc (zak ["T", "many", "left", "parts", "levels"] rfl (by decide)) ?_
    walk_at "g"
    refine zaq (by walk_at "m") (by walk_at "m") (by delta zbv; walk_at "m") ?_ pc (fi _ (by walk_at "m"))
    walk_at "g"
    have hch' := hch
    refine xA hch' fun c1 c2 => ?_
    clear hch'
    rw [htop'] at c1
    refine ⟨zac (kg hK 152), zab (zhX hK (by walk_at "d") hh2 (f := fun c => _ :: _ :: _ :: _ :: _ :: _ :: _ :: _ :: _ :: (r1.d, c) :: _) (fun _ => by walk_at "m") (by walk_at "m") (.tail (.tail (.tail (.tail (.tail (.tail (.tail (.tail (.tail .head))))))))) (by have := of_decide_eq_false q1; walk_at "o") ?_)⟩
    walk_at "g"
    refine zfW ((L, zaa.ns [("world", some (.ref w)), ("T", some (zaC T0)), ("known", some (.ref kn)), ("spot", some spot), ("way", some (.ref wy)), ("here", some (.ref top.x)), ("inner", iv), ("many", mv), ("told", some (.tup [.int (max 1 top.parts), .int (top.levels + 1)]))]) :: (wy, zaa.list ((rest2.map fun r => AV.ref r.x).reverse ++ [.ref r1.x])) :: (r1.D, zaa.list (r1.left.map zcr)) :: (r1.x, zaa.inst 131 r1.d) :: (r1.d, zaa.dict (zbv (zaC r1.T) r1.many r1.D (r1.parts + top.many * max 1 top.parts) (max r1.levels (top.levels + 1)))) :: (zdt rest2 ++ (kn, zaa.dict es') :: r)) ?_ (by walk_at "e") { r1 with parts := r1.parts + top.many * max 1 top.parts, levels := max r1.levels (top.levels + 1) } rest2 es' (some (.ref top.x)) iv mv (some (.tup [.int (max 1 top.parts), .int (top.levels + 1)])) rfl (by rw [List.length_cons] at hlen; walk_at "o") ?_ c1 (ze2 c2 rfl rfl) ?_ hkn2 hsk2 rfl
    ·unfold zht
     simp only [List.map_cons, List.sum_cons]
     walk_at "o"
    ·intro a ha
     refine mcE ha ?_ fun a ha => ?_
     ·have := hrows r1 mz1; exact ⟨this.T, this.left, this.len⟩
     ·exact hrows a (.tail _ (.tail _ ha))
    ·rwa [← hbot]; exact zhM rfl
theorem zaZ.mono {B : zan} {A : Around} {f : AV} {as : List AV} {l : Led} {Φ Φ' : EQ} {Ψ Ψ' : XQ} (x : zaZ B A f as l Φ Ψ) (hq : ∀ b l', Φ b l' → Φ' b l') (hx : ∀ X l', Ψ X l' → Ψ' X l') : zaZ B A f as l Φ' Ψ' := .mk fun s v vs G r rs =>
 wpAny_mono (x.go s v vs G r rs) (fun _ _ ⟨a, b, l1, c, d, e⟩ => ⟨a, b, l1, c, d, hq _ _ e⟩) fun _ _ ⟨a, X, l1, c, d, e, g, h⟩ => ⟨a, X, l1, c, d, e, g, hx _ _ h⟩
theorem zqd {B : zan} {A : Around} {env : Env} {x : Str} {a : AV} {l l' : Led} {Φ : Unit → Led → Prop} {Ψ : XQ} (h : Le l' l) (t : St B A env x a l' Φ Ψ) : St B A env x a l Φ Ψ := fun s u G r => t s u (G.le h) r
theorem zbH {B : zan} {A : Around} {f : AV} {as : List AV} {l l' : Led} {Φ : EQ} {Ψ : XQ} (h : Le l' l) (x : Fn B A f as l' Φ Ψ) : Fn B A f as l Φ Ψ := .mk fun s v vs G r rs => x.go s v vs (G.le h) r rs
theorem zer {B : zan} {A : Around} {r : Led} {Ψ : XQ} {Φ : EQ} (hK : KF B.K) (hr : A.depth + 10 < recursionLimit) (hh : A.handled = none) (hu : A.units + 100 < cLine) {fr : List Env} (hfr : A.frames = some fr) (F : FrL r fr)
  {env : Str → Option Ty} {σ : Str → Option (Int × Int)} {c : Str → Nat} (W : zk8 env σ c) {w kn : Addr} {p : Str} {es0 : List (Str × AV)} (hW : zgj w env r) (hT : (env p).isSome = true) (hes : zaQ env σ es0) (hz : ∀ es, zaQ env σ es → (es.map (·.1)).Nodup → es.length ≤ 1000)
  (h : ∀ es, zaQ env σ es → zbC es0 es → ((σ p).isSome = true → p ∈ es.map (·.1)) → Φ (zaT (σ p)) ((kn, zaa.dict es) :: r)) : Fn B A (.ref 727) [.ref w, .str p, .ref kn] ((kn, zaa.dict es0) :: r) Φ Ψ := by
 refine ziU hK (by walk_at "d") fun L e hf hc Fo => ?_
 show Ex _ _ _ _ (_ :: _) _ _
 have hh2 : (A.deeper e).handled = none := hh
 have hfr2 : (A.deeper e).frames = some (e :: fr) := by show A.frames.map (e :: ·) = _; rwa [hfr]; rfl
 have F2 : FrL ((L, zaa.ns [("world", some (.ref w)), ("path", some (.str p)), ("known", some (.ref kn)), ("fault", none)]) :: r) (e :: fr) := FrL.cons Fo.kind hf (by walk_at "m") (F.le fun p hp => .tail _ hp)
 refine zai ?_
 refine zn1 (C := 64) (Q := fun X l1 => σ p = none ∧ ∃ msg es, zaQ env σ es ∧ zbC es0 es ∧ l1 = (X.e, zaa.exc 64 X.d) :: (X.d, zaa.dict [("message", msg), ("spot", .int 7)]) :: (kn, zaa.dict es) :: (L, zaa.ns [("world", some (.ref w)), ("path", some (.str p)), ("known", some (.ref kn)), ("fault", none)]) :: r) Fo (by walk_at "m") ((kg hK 156)) (by walk_at "m") (zad (kg hK 160)) ?_ ?_
 ·walk_at "g"
  refine zal Fo (by walk_at "m") (zad (kg hK 166)) ?_
  walk_at "g"
  refine ⟨zac (kg hK 167), zab (zbH (by walk_at "e" : Le ((kn, zaa.dict es0) :: (L, zaa.ns [("world", some (.ref w)), ("path", some (.str p)), ("known", some (.ref kn)), ("fault", none)]) :: r) _) (zjZ (T0 := .named p) hK (by walk_at "d") hh2 (by walk_at "d") hfr2 F2 W (hW.up fun p hp => .tail _ hp) hT hes hz ?_ ?_))⟩
  ·intro q es hq h1 h2 h3
   walk_at "g"
   have := h es h1 h2 (fun _ => h3)
   rw [show σ p = some q from hq] at this
   exact ⟨_, (by walk_at "e" : Le ((kn, zaa.dict es) :: r) _), this⟩
  ·intro hq x d msg es h1 h2
   exact ⟨rfl, (iEA _ hfr2 (F2.le fun p hp => .tail _ (.tail _ (.tail _ hp)))), hq, msg, es, h1, h2, rfl⟩
 ·intro X l1 zq59 hm
  refine zeo zq59 fun hq msg es h1 h2 yq254 => ?_
  clear zq59
  subst yq254
  walk_at "g"
  refine zkI (.head _) mz1 (by walk_at "m") ?_ ((kg hK 155)) ((kg hK 162))
  walk_at "g"
  refine zi7 ?_
  walk_at "g"
  have := h es h1 h2 (fun e => by rw [hq] at e; cases e)
  rw [hq] at this
  exact ⟨[("world", some (.ref w)), ("path", some (.str p)), ("known", some (.ref kn)), ("fault", some (.ref X.e))], _, lz3 Le.refl, _, (by walk_at "e" : Le ((kn, zaa.dict es) :: r) _), this⟩
theorem zjY {B : zan} {A : Around} {l : Led} {Ψ : XQ} {Φ : EQ} (hK : KF B.K) (hr : A.depth + 10 < recursionLimit) (hh : A.handled = none) {fr : List Env} (hfr : A.frames = some fr) (F : FrL l fr) {f : Addr} (hk : ∀ L n, ze7 B (.ref f) ((L, zaa.ns n) :: l))
  (h : ∀ e L, (A.deeper e).frames = some (e :: fr) → FrL ((L, zaa.ns [("call", some (.ref f)), ("fault", none)]) :: l) (e :: fr) → zaZ B (A.deeper e) (.ref f) [] ((L, zaa.ns [("call", some (.ref f)), ("fault", none)]) :: l) (fun a l1 => ∃ l2, Le ((L, zaa.ns [("call", some (.ref f)), ("fault", none)]) :: l2) l1 ∧ Φ a l2)
   (fun X l1 => X.C = 64 ∧ FrL l1 (e :: fr) ∧ ∃ msg sp l2, zbN sp = true ∧ Le ((X.e, zaa.exc 64 X.d) :: (X.d, zaa.dict [("message", msg), ("spot", sp)]) :: (L, zaa.ns [("call", some (.ref f)), ("fault", none)]) :: l2) l1 ∧ Φ sp l2)) :
  Fn B A (.ref 734) [.ref f] l Φ Ψ := by
 refine ziW hK (by walk_at "d") fun L e hf hc Fo => ?_
 show Ex _ _ _ _ (_ :: _) _ _
 have hh2 : (A.deeper e).handled = none := hh
 have hfr2 : (A.deeper e).frames = some (e :: fr) := by show A.frames.map (e :: ·) = _; rwa [hfr]; rfl
 have F2 : FrL ((L, zaa.ns [("call", some (.ref f)), ("fault", none)]) :: l) (e :: fr) := FrL.cons Fo.kind hf (by walk_at "m") (F.le fun p hp => .tail _ hp)
 refine zai ?_
 refine zn1 (C := 64) (Q := fun X l1 => ∃ msg sp l2, zbN sp = true ∧ Le ((X.e, zaa.exc 64 X.d) :: (X.d, zaa.dict [("message", msg), ("spot", sp)]) :: (L, zaa.ns [("call", some (.ref f)), ("fault", none)]) :: l2) l1 ∧ Φ sp l2) Fo (by walk_at "m") ((kg hK 156)) (by walk_at "m") (zad (kg hK 160)) ?_ ?_
 ·walk_at "g"
  refine ⟨hk _ _, zaZ.mono (h e L hfr2 F2) ?_ ?_⟩
  ·intro a l1 zq60
   refine xEA zq60 fun l2 h1 h2 => ?_
   clear zq60
   walk_at "g"
   exact ⟨_, (Le.skip Le.refl).trans h1, h2⟩
  ·intro X l1 zq61
   refine xAA zq61 fun h1 h2 h3 => ?_
   clear zq61
   exact (iAA h1 (iEA _ hfr2 h2) h3)
 ·intro X l1 zq62 hm
  refine zmh zq62 fun msg sp l2 hd h1 h2 => ?_
  clear zq62
  refine zqd h1 ?_
  walk_at "g"
  refine zkI (.head _) mz1 (by walk_at "m") ?_ ((kg hK 155)) ((kg hK 162)) hd
  walk_at "g"
  exact ⟨_, _, by walk_at "e", _, Le.refl, h2⟩
theorem zle {es : List (Str × AV)} {k : Str} {v : AV} {f : AV → List (Str × AV)} (u : UpN es k v f) : f v = es := by
 induction u with
 | head => rfl
 | tail _ ih => show _ :: _ = _; rwa [ih]
theorem zkc {B : zan} {A : Around} {l : Led} {Ψ : XQ} {Φ : EQ} {i j : Str} (hu : A.units < cLine) (h : Φ (.bool (!(i == j))) l) : Op2 B A (compareOp .NotEq) (.str i) (.str j) l Φ Ψ := zcy rfl rfl (by simpa [zaH] using hu) (h)
theorem zcV (x y : Str) : (x ++ y).length = x.length + y.length := by show (x.cps ++ y.cps).size = _; rwa [Array.size_append]; rfl
noncomputable def tr (ps : List Str) : List (Str × AV) := ps.map fun p => (p, .bool true)
noncomputable def hEs (w o dn : Addr) : List (Str × AV) := [("world", .ref w), ("is_open", .ref o), ("done", .ref dn)]
noncomputable abbrev zcC (x d w o dn : Addr) (op done : List Str) (r : Led) : Led := (x, zaa.inst 479 d) :: (d, zaa.dict (hEs w o dn)) :: (o, zaa.dict (tr op)) :: (dn, zaa.dict (tr done)) :: r
noncomputable def za7 (env : Str → Option Ty) (op dn : List Str) : Ty → Option (List Ty × List Str)
 | .leaf _ => some ([], op)
 | .arr _ t => some ([t], op)
 | .struct fs => some ((fs.map (·.2)).reverse, op)
 | .named p => if p ∈ dn then some ([], op) else if p ∈ op then none else some ((env p).toList, op ++ [p])
theorem zcu (ps : List Str) : (tr ps).map (·.1) = ps := by unfold tr; rwa [List.map_map]; exact (List.map_congr_left fun _ _ => rfl).trans (List.map_id' ps)
theorem zod (ps : List Str) (p : Str) : (dictAt (tr ps) p).isSome = decide (p ∈ ps) := by
 by_cases h : p ∈ ps
 ·rwa [decide_eq_true h]; exact zc6 (by rwa [zcu]; exact h)
 ·rwa [decide_eq_false h]
  cases e : dictAt (tr ps) p with
  | none => rfl
  | some v => exact absurd (by have := List.mem_map_of_mem (f := (·.1)) (ze0 e); rw [zcu] at this; exact this) h
theorem zl8 : bootBuiltins "reversed" = some (.type "reversed") := by decide +kernel
theorem zmj {h : Heap} {kvs : List (Str × Value)} {vv : Value} {ps : List Str} {p : Str} (r : KvR h kvs (tr ps)) (nd : ((tr ps).map (·.1)).Nodup) (rv : VR h vv (.bool true)) : KvR h (stored kvs p vv) (tr (if p ∈ ps then ps else ps ++ [p])) := by
 by_cases hp : p ∈ ps
 ·rwa [if_pos hp]
  refine xEE (zmi (es := tr ps) (k := p) (by rwa [zcu]; exact hp)) fun v f u => ?_
  have : f (.bool true) = tr ps := by
   have hv : v = .bool true := by
    refine xEA (List.mem_map.mp u.mem) fun q _ e => ?_
    exact (congrArg Prod.snd e).symm
   rwa [← hv]
   exact zle u
  rwa [← this]
  exact zbe u r nd rv
 ·rwa [if_neg hp]
  have := zae (k := p) r (by rwa [zcu]; exact hp) rv
  unfold tr at this ⊢
  rwa [List.map_append]; exact this
theorem zik : ∀ fs : List (Str × Ty), zei fs = fs.map fun f => AV.tup [.str f.1, zaC f.2, .bool false]
 | [] => rfl
 | (n, t) :: r => by show _ :: zei r = _; rwa [zik r]; rfl
theorem zoC {fs : List (Str × Ty)} {i : Nat} {x : AV} (h : (zei fs).reverse[i]? = some x) : ∃ f, fs.reverse[i]? = some f ∧ x = .tup [.str f.1, zaC f.2, .bool false] := by
 rw [zik, ← List.map_reverse, List.getElem?_map] at h
 cases e : fs.reverse[i]? with
 | none => rw [e] at h; cases h
 | some f => rw [e] at h; cases h; exact (iEA f rfl rfl)
theorem zmb {B : zan} {A : Around} {r : Led} {Ψ : XQ} {Φ : EQ} (hK : KF B.K) (hr : A.depth + 4 < recursionLimit) (hh : A.handled = none) (hu : A.units + 20 < cLine) {fr : List Env} (hfr : A.frames = some fr) (F : FrL r fr)
  {env : Str → Option Ty} {x d w o dn : Addr} {op done : List Str} {k : Ty} (hW : zgj w env r) (hk : Wf env k) (hlong : ∀ p, (env p).isSome = true → p.length ≤ 1000) (hop : op.Nodup → op.length ≤ 1000)
  (h1 : ∀ left op' D, za7 env op done k = some (left, op') → Φ (.ref D) ((D, zaa.list (left.map zaC)) :: zcC x d w o dn op' done r))
  (h2 : za7 env op done k = none → ∀ e ed msg, Ψ ⟨e, 64, ed⟩ ((e, zaa.exc 64 ed) :: (ed, zaa.dict [("message", msg), ("spot", .int 0)]) :: zcC x d w o dn op done r)) :
  Fn B A (.ref 476) [.ref x, zaC k] (zcC x d w o dn op done r) Φ Ψ := by
 refine zez hK (by walk_at "d") fun L e hf hc Fo => ?_
 show Ex _ _ _ _ (_ :: _) _ _
 have hh2 : (A.deeper e).handled = none := hh
 have hfr2 : (A.deeper e).frames = some (e :: fr) := by show A.frames.map (e :: ·) = _; rwa [hfr]; rfl
 have pc : zaj B.K 479 = true := (kg hK 168)
 have fi : ∀ x ∈ (["world", "is_open", "done"] : List Str), findIn B.K (.ref 479) x = some none := (kg hK 185)
 cases k with
 | leaf v =>
  have hsh := zbu hk (by trivial)
  refine zbE hsh fun us ur hus hnm => ?_
  clear hsh
  have h3 : (us == ("array" : Str)) = false ∧ (us == ("struct" : Str)) = false := by
   have hl := hk
   change v = _ at hus
   subst hus
   exact ⟨beq_eq_false_iff_ne.mpr hl.2.1, beq_eq_false_iff_ne.mpr hl.2.2⟩
  rwa [hus]
  walk_at "g"
  refine zat ?_
  rwa [h3.1]
  walk_at "g"
  refine zat ?_
  rwa [h3.2]
  walk_at "g"
  refine zkc (by walk_at "d") ?_
  rwa [hnm]
  walk_at "g"
  intro D
  walk_at "g"
  exact ⟨_, (by walk_at "e" : Le ((D, zaa.list []) :: zcC x d w o dn op done r) _), h1 _ _ D rfl⟩
 | arr n t =>
  show Ex _ _ _ ((L, zaa.ns [("self", some (.ref x)), ("told", some (.tup [.str "array", .int n, zaC t]))]) :: _) _ _ _
  walk_at "g"
  refine zat ?_
  walk_at "g"
  intro D
  walk_at "g"
  exact ⟨_, (by walk_at "e" : Le ((D, zaa.list [zaC t]) :: zcC x d w o dn op done r) _), h1 [t] _ D rfl⟩
 | struct fs =>
  have hl : fs.length ≤ 100 := hk.1
  show Ex _ _ _ ((L, zaa.ns [("self", some (.ref x)), ("told", some (.tup [.str "struct", .tup (zei fs)]))]) :: _) _ _ _
  walk_at "g"
  refine zat ?_
  walk_at "g"
  refine zat ?_
  walk_at "g"
  refine za8 Fo (own := [".0", "row"]) (gs' := []) (cs := []) (cl' := []) (by decide +kernel) rfl (fun _ h => nomatch h) ?_ (by intro _; walk_at "r")
  walk_at "g"
  refine zah Fo (by walk_at "m") (zaO (n := "reversed") (kg hK 183) zl8 (by decide)) ?_
  walk_at "g"
  refine ⟨zaA, zoL (by rwa [zbO]; walk_at "o") fun a => ?_⟩
  refine ⟨(zei fs).reverse, _, fun i ys l' => ys = ((fs.reverse.take i).map fun f => zaC f.2) ∧ l' = (L, zaa.ns [("self", some (.ref x)), ("told", some (.tup [.str "struct", .tup (zei fs)]))]) :: zcC x d w o dn op done r, _, _, zox hh2 (by rwa [zbO]; walk_at "o"), trivial, by rwa [List.length_reverse, zbO]; walk_at "o", ⟨rfl, rfl⟩, fun _ _ _ _ _ => trivial, ?_, ?_⟩
  ·intro C env' i y ys m ks l' hx zq63 Fo' hm
   revert ys l'
   refine sQQ ?_
   refine xEE (zdk hm) fun a1 a2 yq257 => ?_
   subst yq257
   refine xEA (zoC hx) fun f hf' yq258 => ?_
   subst yq258
   walk_at "g"
   exact ⟨_, _, rfl, Le.refl, by rwa [zaM hf', List.map_append]; rfl, rfl⟩
  ·intro ys l' zq64 D
   revert ys l'
   refine sQQ ?_
   rwa [List.length_reverse, zbO, ← List.length_reverse, List.take_length]
   walk_at "g"
   have := h1 (fs.map (·.2)).reverse op D rfl
   rw [← List.map_reverse, List.map_map] at this
   exact ⟨_, (by walk_at "e" : Le ((D, zaa.list (fs.reverse.map fun f => zaC f.2)) :: zcC x d w o dn op done r) _), this⟩
 | named p =>
  show Ex _ _ _ ((L, zaa.ns [("self", some (.ref x)), ("told", some (.tup [.str "named", .str p]))]) :: _) _ _ _
  refine zdz hW.at_ fun wd nd wes nes w1 w2 w3 w4 w5 w6 => ?_
  have pcw : zaj B.K 664 = true := (kg hK 133)
  have pcn : zaj B.K 614 = true := (kg hK 134)
  have fin : findIn B.K (.ref 664) "named" = some none := (kg hK 136)
  have fiu : findIn B.K (.ref 614) "underlying" = some none := (kg hK 140)
  walk_at "g"
  refine zat ?_
  walk_at "g"
  refine zat ?_
  walk_at "g"
  refine zkc (by walk_at "d") ?_
  walk_at "g"
  refine zaq (by walk_at "m") (by walk_at "m") (by delta hEs; walk_at "m") ?_ pc (fi _ (by walk_at "m"))
  refine zb8 (by walk_at "m") ?_
  rwa [zod]
  by_cases hpd : p ∈ done
  ·rwa [decide_eq_true hpd]
   walk_at "g"
   intro D
   walk_at "g"
   exact ⟨_, (by walk_at "e" : Le ((D, zaa.list []) :: zcC x d w o dn op done r) _), h1 [] op D (by unfold za7; dsimp only; rwa [if_pos hpd])⟩
  ·rwa [decide_eq_false hpd]
   walk_at "g"
   refine zaq (by walk_at "m") (by walk_at "m") (by delta hEs; walk_at "m") ?_ pc (fi _ (by walk_at "m"))
   refine zb8 (by walk_at "m") ?_
   rwa [zod]
   by_cases hpo : p ∈ op
   ·rwa [decide_eq_true hpo]
    walk_at "s"
    refine zai ?_
    refine zjy hh2 ?_
    walk_at "g"
    refine zal Fo (by walk_at "m") (zad (kg hK 160)) ?_
    walk_at "g"
    have hpl := hlong p hk
    refine zaR (by show 9 + _ ≤ _; walk_at "o") ?_
    walk_at "g"
    refine zaR (by rwa [zcV]; show 9 + _ + 13 ≤ _; walk_at "o") ?_
    walk_at "g"
    refine ⟨zac (kg hK 159), zkL hK (by walk_at "d") fun y yd v => ?_⟩
    refine ⟨y, 64, yd, .ref v, _, rfl, (kg hK 156), .tail .head, ?_⟩
    refine zk9 (l := (y, zaa.exc 64 yd) :: (yd, zaa.dict [("message", .str ("the type " ++ p ++ " holds itself")), ("spot", .int 0)]) :: (L, zaa.ns [("self", some (.ref x)), ("told", some (.tup [.str "named", .str p]))]) :: zcC x d w o dn op done r) ?_ (lz1 (lz0 Le.refl))
    exact ⟨(iEA fr hfr2 (FrL.cons Fo.kind hf (by walk_at "m") (F.le fun p hp => by walk_at "m"))), _, (by walk_at "e" : Le ((y, zaa.exc 64 yd) :: (yd, zaa.dict [("message", _), ("spot", .int 0)]) :: zcC x d w o dn op done r) _), .head _, h2 (by unfold za7; dsimp only; rwa [if_neg hpd, if_pos hpo]) y yd _⟩
   ·rwa [decide_eq_false hpo]
    refine xE (Option.isSome_iff_exists.mp hk) fun T hT => ?_
    refine zcs (w6 p T hT) fun ra rd res k1 k2 k3 k4 => ?_
    walk_at "g"
    refine zaq (by walk_at "m") (by walk_at "m") (by delta hEs; walk_at "m") ?_ pc (fi _ (by walk_at "m"))
    walk_at "g"
    refine zb6 (es' := tr (if p ∈ op then op else op ++ [p])) (.tail (.tail (.tail .head))) (fun rk nd rv => zmj rk nd rv) (fun nd => by rw [zcu] at nd; have := hop nd; unfold tr; rwa [List.length_map]; walk_at "o") ?_
    rwa [if_neg hpo]
    walk_at "g"
    refine zaq (by walk_at "m") (by walk_at "m") (by delta hEs; walk_at "m") ?_ pc (fi _ (by walk_at "m"))
    walk_at "g"
    refine zaq (by walk_at "m") (by walk_at "m") w4 ?_ pcw fin
    walk_at "g"
    refine zek (by walk_at "m") k1 ?_ (by intro _ _; walk_at "r")
    walk_at "g"
    refine zaq (by walk_at "m") (by walk_at "m") k4 ?_ pcn fiu (zeT (hW.ok p T hT).2)
    walk_at "g"
    intro D
    walk_at "g"
    exact ⟨_, (by walk_at "e" : Le ((D, zaa.list [zaC T]) :: zcC x d w o dn (op ++ [p]) done r) _), h1 [T] _ D (by unfold za7; dsimp only; rwa [if_neg hpd, if_neg hpo, hT]; rfl)⟩
structure znZ where
 p : Option Str
 D : Addr
 left : List Ty
noncomputable def zfy : Option Str → AV
 | none => .none
 | some p => .str p
noncomputable abbrev zeV (f : znZ) : AV := .tup [zfy f.p, .ref f.D]
noncomputable abbrev zk6 (f : znZ) : Option Str × List Ty := (f.p, f.left)
noncomputable def zcS (fs : List znZ) : Led := fs.map fun f => (f.D, zaa.list (f.left.map zaC))
noncomputable def zdY : Ty → Option Str
 | .named p => some p
 | _ => none
noncomputable def zon : Option Str → List Str → List Str
 | none, op => op
 | some p, op => op.filter (· ≠ p)
noncomputable def zoo : Option Str → List Str → List Str
 | none, dn => dn
 | some p, dn => if p ∈ dn then dn else dn ++ [p]
structure HI (env : Str → Option Ty) (names : List Str) (I : Nat → List (Option Str × List Ty) → List Str → List Str → Prop) : Prop where
 wf : ∀ n st op dn, I n st op dn → (∀ f ∈ st, (∀ k ∈ f.2, Wf env k) ∧ f.2.length ≤ 100) ∧ st.length ≤ 900000 ∧ (∀ p ∈ op, p ∈ names) ∧ (∀ p ∈ dn, p ∈ names) ∧ ∀ f ∈ st, ∀ p, f.1 = some p → p ∈ names
 push : ∀ n p ks k st op dn left op', I n ((p, ks ++ [k]) :: st) op dn → za7 env op dn k = some (left, op') → ∃ n', n' < n ∧ I n' ((zdY k, left) :: (p, ks) :: st) op' dn
 pop : ∀ n p st op dn, I n ((p, []) :: st) op dn → ∃ n', n' < n ∧ I n' st (zon p op) (zoo p dn)
theorem zbn : ∀ {l m : List Str}, l.Nodup → (∀ p ∈ l, p ∈ m) → l.length ≤ m.length
 | [], _, _, _ => Nat.zero_le _
 | x :: r, m, nd, h => by
  rw [List.nodup_cons] at nd
  have hx := h x (.head _)
  have := zbn (l := r) (m := m.erase x) nd.2 fun p hp => (List.mem_erase_of_ne (fun e : p = x => nd.1 (e ▸ hp))).mpr (h p (.tail _ hp))
  rw [List.length_erase_of_mem hx] at this
  have hm := List.length_pos_of_mem hx
  rwa [List.length_cons]; walk_at "o"
theorem ziI (ps : List Str) (p : Str) : zcd (tr ps) p = tr (ps.filter (· ≠ p)) := by
 unfold zcd tr
 rwa [List.filter_map]
 rfl
theorem zl3 {B : zan} {A : Around} {l : Led} {Ψ : XQ} {Φ : EQ} {a : Addr} {es : List (Str × AV)} {k : Str} {d x : AV} {g : zaa → Led} (hu : Up l a (.dict es) g) (hx : (k, x) ∈ es) (hz : (es.map (·.1)).Nodup → es.length ≤ 10 ^ 6) (h : Φ x (g (.dict (zcd es k)))) : zaZ B A (.bi "dict.pop") [.ref a, .str k, d] l Φ Ψ := .mk fun s f vs G r rs => by
 refine xEA (G.cells _ hu.mem) fun kvs yq261 rk => ?_
 obtain ⟨D, hs⟩ := yq261
 exact (znz hu hx (hz (zaS D rk)) h).go s f vs G r rs
noncomputable def zhR (I : Nat → List (Option Str × List Ty) → List Str → List Str → Prop) (L x d w o dn wy : Addr) (T0 : AV) (r : Led) (n : Nat) (l : Led) : Prop :=
 ∃ (fs : List znZ) (op done : List Str) (pv lv iv : Option AV), I n (fs.map zk6) op done ∧
  l = (L, zaa.ns [("self", some (.ref x)), ("told", some T0), ("way", some (.ref wy)), ("path", pv), ("left", lv), ("inner", iv)]) :: (wy, zaa.list (fs.map zeV).reverse) :: zcC x d w o dn op done (zcS fs ++ r)
theorem zkq {I : Nat → List (Option Str × List Ty) → List Str → List Str → Prop} {L x d w o dn wy : Addr} {T0 : AV} {r : Led} {m : Nat} {l : Led} (fs : List znZ) (op done : List Str) (pv lv iv : Option AV) (h1 : I m (fs.map zk6) op done) (h2 : l = (L, zaa.ns [("self", some (.ref x)), ("told", some T0), ("way", some (.ref wy)), ("path", pv), ("left", lv), ("inner", iv)]) :: (wy, zaa.list (fs.map zeV).reverse) :: zcC x d w o dn op done (zcS fs ++ r)) : zhR I L x d w o dn wy T0 r m l := ⟨fs, op, done, pv, lv, iv, h1, h2⟩
theorem zf6 {I : Nat → List (Option Str × List Ty) → List Str → List Str → Prop} {L x d w o dn wy : Addr} {T0 : AV} {r : Led} {n : Nat} {l0 : Led} (m : Nat) (l : Led) (hn : m < n) (hl : Le l l0) (fs : List znZ) (op done : List Str) (pv lv iv : Option AV) (h1 : I m (fs.map zk6) op done) (h2 : l = (L, zaa.ns [("self", some (.ref x)), ("told", some T0), ("way", some (.ref wy)), ("path", pv), ("left", lv), ("inner", iv)]) :: (wy, zaa.list (fs.map zeV).reverse) :: zcC x d w o dn op done (zcS fs ++ r)) : zjs (zhR I L x d w o dn wy T0 r) n l0 := ⟨m, l, hn, hl, zkq fs op done pv lv iv h1 h2⟩
theorem znc {B : zan} {A : Around} {r : Led} {Ψ : XQ} {Φ : EQ} (hK : KF B.K) (hr : A.depth + 6 < recursionLimit) (hh : A.handled = none) (hu : A.units + 40 < cLine) {fr : List Env} (hfr : A.frames = some fr) (F : FrL r fr)
  {env : Str → Option Ty} {x d w o dn : Addr} {op0 done0 names : List Str} {T0 : Ty} (hW : zgj w env r) (hT0 : Wf env T0) (hlong : ∀ p, (env p).isSome = true → p.length ≤ 1000) (hn : names.length ≤ 1000)
  {I : Nat → List (Option Str × List Ty) → List Str → List Str → Prop} (H : HI env names I) {n0 : Nat} (h0 : I n0 [(none, [T0])] op0 done0)
  (h1 : ∀ n op done, I n [] op done → Φ .none (zcC x d w o dn op done r))
  (h2 : ∀ n p ks k st op done, I n ((p, ks ++ [k]) :: st) op done → za7 env op done k = none → ∀ e ed msg, Ψ ⟨e, 64, ed⟩ ((e, zaa.exc 64 ed) :: (ed, zaa.dict [("message", msg), ("spot", .int 0)]) :: zcC x d w o dn op done r)) :
  Fn B A (.ref 471) [.ref x, zaC T0] (zcC x d w o dn op0 done0 r) Φ Ψ := by
 refine zfc hK (by walk_at "d") fun L e hf hc Fo => ?_
 show Ex _ _ _ _ (_ :: _) _ _
 have hh2 : (A.deeper e).handled = none := hh
 have hfr2 : (A.deeper e).frames = some (e :: fr) := by show A.frames.map (e :: ·) = _; rwa [hfr]; rfl
 have pc : zaj B.K 479 = true := (kg hK 168)
 have fi : ∀ x ∈ (["world", "is_open", "done"] : List Str), findIn B.K (.ref 479) x = some none := (kg hK 185)
 walk_at "g"
 intro D0
 walk_at "g"
 intro wy
 walk_at "s"
 refine zai ?_
 refine zmy (l' := (L, zaa.ns [("self", some (.ref x)), ("told", some (zaC T0)), ("way", some (.ref wy)), ("path", none), ("left", none), ("inner", none)]) :: (wy, zaa.list [.tup [.none, .ref D0]]) :: zcC x d w o dn op0 done0 ((D0, zaa.list [zaC T0]) :: r)) (by walk_at "e") ?_
 refine zdy (zhR I L x d w o dn wy (zaC T0) r) n0 (fun X l h => h.1) (zkq [⟨none, D0, [T0]⟩] op0 done0 none none none h0 rfl) fun n l' hI => ?_
 refine zlb hI ?_; clear hI; intro fs op done pv lv iv hI yq262
 subst yq262
 have hwf := H.wf _ _ _ _ hI
 walk_at "g"
 intro Z
 refine zbT mz2 (.head _) (by walk_at "d") ?_
 cases fs with
 | nil =>
  walk_at "g"
  exact ⟨_, (by walk_at "e" : Le (zcC x d w o dn op done r) (_ :: _ :: _ :: zcC x d w o dn op done r)), h1 n op done hI⟩
 | cons f rest =>
  rwa [List.map_cons, List.reverse_cons, show ((rest.map zeV).reverse ++ [zeV f]).isEmpty = false by simp]
  have hfw := hwf.1 _ (.head _)
  have hlen := hwf.2.1
  rw [List.length_map, List.length_cons] at hlen
  have hcl : zcS (f :: rest) ++ r = (f.D, zaa.list (f.left.map zaC)) :: (zcS rest ++ r) := rfl
  rwa [hcl]
  walk_at "s"
  refine zai ?_
  refine zaL ?_ (by walk_at "r") (by walk_at "r")
  walk_at "s"
  refine zcf mz2 ?_ (by intro _ _; walk_at "r")
  walk_at "s"
  refine zai ?_
  walk_at "s"
  intro Z2
  refine zbT (xs := f.left.map zaC) (by walk_at "m") (.head _) (by walk_at "d") ?_
  walk_at "s"
  refine zce (fun q => ?_) (fun q => ?_)
  ·have hne : f.left ≠ [] := by intro e; rw [e] at q; cases q
   obtain ⟨ks, k, hks⟩ : ∃ ks k, f.left = ks ++ [k] := ⟨f.left.dropLast, f.left.getLast hne, (List.dropLast_concat_getLast hne).symm⟩
   have hkw : Wf env k := hfw.1 k (by show k ∈ f.left; rwa [hks]; exact List.mem_append_right _ (.head _))
   have hfl : f.left.length ≤ 100 := hfw.2
   rw [hks] at hfl
   rw [List.length_append] at hfl
   rwa [hks, List.map_append]
   show Ex _ _ _ (_ :: _ :: _ :: _ :: _ :: _ :: _ :: _ :: (_, zaa.list (ks.map zaC ++ [zaC k])) :: _) _ _ _
   refine zai ?_
   walk_at "s"
   refine zfC (by walk_at "m") ?_
   walk_at "s"
   refine ⟨zap, zfJ (uzt .head) (by rwa [List.length_map]; walk_at "o") ?_⟩
   walk_at "s"
   refine zai ?_
   refine zob (by assumption) ?_ (by walk_at "r")
   refine zkN ?_ (by walk_at "r") (by walk_at "r")
   walk_at "s"
   refine zbb (by walk_at "m") ?_
   refine zby ?_ (by walk_at "r")
   refine zkM ?_
   refine zby ?_ (by walk_at "r")
   refine zkQ (P := fun a => a = zfy (zdY k)) ?_ ?_
   ·have shape : (∃ p, k = .named p) ∨ zaV k := by
     cases k with
     | named p => exact .inl ⟨p, rfl⟩
     | _ => exact .inr trivial
    rcases shape with ⟨p, rfl⟩ | hkn
    ·show Ev _ _ _ (_ :: _ :: (L, zaa.ns [("self", some (.ref x)), ("told", some (zaC T0)), ("way", some (.ref wy)), ("path", some (zfy f.p)), ("left", some (.ref f.D)), ("inner", some (.tup [.str "named", .str p]))]) :: _) _ _ _
     walk_at "g"
     refine zat ?_
     walk_at "g"
     exact ⟨rfl, rfl⟩
    ·refine zbE (zbu hkw hkn) fun us ur hus hnm => ?_
     have hp : zdY k = none := by
      cases k with
      | named p => exact hkn.elim
      | _ => rfl
     rwa [hus, hp]
     walk_at "g"
     refine zat ?_
     rwa [hnm]
     walk_at "g"
     exact ⟨rfl, rfl⟩
   ·rintro a rfl
    walk_at "g"
    refine zao (C := 479) (d := d) (by walk_at "m") (by walk_at "m") ((kg hK 169)) ((kg hK 170)) pc (zak ["world", "is_open", "done"] rfl (by decide)) ?_
    walk_at "g"
    have hI2 : I n ((f.p, ks ++ [k]) :: rest.map zk6) op done := by
     have := hI
     rw [List.map_cons, show zk6 f = (f.p, ks ++ [k]) by unfold zk6; rwa [hks]] at this
     exact this
    refine ⟨zac (kg hK 171), zab (zbH (l' := zcC x d w o dn op done ((L, zaa.ns [("self", some (.ref x)), ("told", some (zaC T0)), ("way", some (.ref wy)), ("path", some (zfy f.p)), ("left", some (.ref f.D)), ("inner", some (zaC k))]) :: (wy, zaa.list ((List.map zeV rest).reverse ++ [zeV f])) :: (f.D, zaa.list (ks.map zaC)) :: (zcS rest ++ r))) (by walk_at "e")
     (zmb hK (by walk_at "d") hh2 (by walk_at "d") hfr2 (FrL.cons Fo.kind hf (by walk_at "m") (F.le fun p hp => by walk_at "m")) (hW.up fun p hp => by walk_at "m") hkw hlong (fun nd => by have := zbn nd hwf.2.2.1; walk_at "o") (fun left op' D hb => ?_) (fun hb e2 ed msg => ?_)))⟩
    ·walk_at "g"
     refine ⟨zap, za3 uz6 (by simp; walk_at "o") ?_⟩
     walk_at "g"
     refine xEA (H.push _ _ _ _ _ _ _ _ _ hI2 hb) fun n' hn' hI' => ?_
     refine zf6 n' ((L, zaa.ns [("self", some (.ref x)), ("told", some (zaC T0)), ("way", some (.ref wy)), ("path", some (zfy f.p)), ("left", some (.ref f.D)), ("inner", some (zaC k))]) :: (wy, zaa.list (List.map zeV (⟨zdY k, D, left⟩ :: ⟨f.p, f.D, ks⟩ :: rest)).reverse) :: zcC x d w o dn op' done ((D, zaa.list (left.map zaC)) :: (f.D, zaa.list (ks.map zaC)) :: (zcS rest ++ r))) hn' ?_ (⟨zdY k, D, left⟩ :: ⟨f.p, f.D, ks⟩ :: rest) op' done _ _ _ hI' rfl
     rwa [List.map_cons, List.map_cons, List.reverse_cons, List.reverse_cons]
     walk_at "e"
    ·exact ⟨(iEA fr hfr2 (FrL.cons Fo.kind hf (by walk_at "m") (F.le fun p hp => by walk_at "m"))), _, (by walk_at "e" : Le ((e2, zaa.exc 64 ed) :: (ed, zaa.dict [("message", msg), ("spot", .int 0)]) :: zcC x d w o dn op done r) _), .head _, h2 _ _ _ _ _ _ _ hI2 hb e2 ed msg⟩
  ·have hnil : f.left = [] := by
    cases e : f.left with
    | nil => rfl
    | cons a b => rw [e] at q; cases q
   rwa [hnil]
   walk_at "s"
   refine zai ?_
   walk_at "s"
   refine zfC (by walk_at "m") ?_
   walk_at "s"
   refine ⟨zap, zfJ uz3 (by simp; walk_at "o") ?_⟩
   walk_at "s"
   refine zai ?_
   have hI2 : I n ((f.p, []) :: rest.map zk6) op done := by
    have := hI
    rw [List.map_cons, show zk6 f = (f.p, []) by unfold zk6; rwa [hnil]] at this
    exact this
   refine xEA (H.pop _ _ _ _ _ hI2) fun n' hn' hI' => ?_
   walk_at "s"
   refine zaK ?_
   cases hfp : f.p with
   | none =>
    rw [hfp] at hI'
    walk_at "s"
    refine zf6 n' ((L, zaa.ns [("self", some (.ref x)), ("told", some (zaC T0)), ("way", some (.ref wy)), ("path", some (zfy none)), ("left", some (.ref f.D)), ("inner", iv)]) :: (wy, zaa.list (List.map zeV rest).reverse) :: zcC x d w o dn op done (zcS rest ++ r)) hn' ?_ _ op done _ _ _ hI' rfl
    walk_at "e"
   | some p =>
    rw [hfp] at hI'
    have hpn : p ∈ names := hwf.2.2.2.2 (zk6 f) (.head _) p hfp
    show Th _ _ (.bool true) (_ :: _ :: (L, zaa.ns [("self", some (.ref x)), ("told", some (zaC T0)), ("way", some (.ref wy)), ("path", some (.str p)), ("left", some (.ref f.D)), ("inner", iv)]) :: _) _ _
    walk_at "s"
    refine zai ?_
    refine zn3 (P := fun l1 => l1 = (Z2, zaa.list []) :: (Z, zaa.list []) :: (L, zaa.ns [("self", some (.ref x)), ("told", some (zaC T0)), ("way", some (.ref wy)), ("path", some (.str p)), ("left", some (.ref f.D)), ("inner", iv)]) :: (wy, zaa.list (List.map zeV rest).reverse) :: zcC x d w o dn (op.filter (· ≠ p)) done ((f.D, zaa.list (List.map zaC [])) :: (zcS rest ++ r))) ?_ ?_
    ·walk_at "g"
     refine zaq (by walk_at "m") (by walk_at "m") (by delta hEs; walk_at "m") ?_ pc (fi _ (by walk_at "m"))
     refine znn (by walk_at "m") ?_
     walk_at "g"
     by_cases hpo : p ∈ op
     ·refine ⟨zap, zl3 uz6 (x := .bool true) (List.mem_map_of_mem (f := fun p => (p, AV.bool true)) hpo) (fun nd => by rw [zcu] at nd; have := zbn nd hwf.2.2.1; unfold tr; rwa [List.length_map]; walk_at "o") ?_⟩
      rwa [ziI]
      walk_at "g"
      exact ⟨rfl, rfl⟩
     ·refine ⟨zap, zg0 (by walk_at "m") (by rwa [zcu]; exact hpo) ?_⟩
      walk_at "g"
      have : op.filter (· ≠ p) = op := List.filter_eq_self.mpr fun q hq => decide_eq_true fun e => hpo (e ▸ hq)
      exact ⟨rfl, by (rewrite [this]; with_reducible rfl)⟩
    ·rintro l1 rfl
     walk_at "g"
     refine zaq (by walk_at "m") (by walk_at "m") (by delta hEs; walk_at "m") ?_ pc (fi _ (by walk_at "m"))
     walk_at "g"
     refine zb6 (es' := tr (if p ∈ done then done else done ++ [p])) (.tail (.tail (.tail (.tail (.tail (.tail (.tail .head))))))) (fun rk nd rv => zmj rk nd rv) (fun nd => by rw [zcu] at nd; have := zbn nd hwf.2.2.2.1; unfold tr; rwa [List.length_map]; walk_at "o") ?_
     walk_at "g"
     refine zf6 n' ((L, zaa.ns [("self", some (.ref x)), ("told", some (zaC T0)), ("way", some (.ref wy)), ("path", some (.str p)), ("left", some (.ref f.D)), ("inner", iv)]) :: (wy, zaa.list (List.map zeV rest).reverse) :: zcC x d w o dn (op.filter (· ≠ p)) (if p ∈ done then done else done ++ [p]) (zcS rest ++ r)) hn' ?_ rest (op.filter (· ≠ p)) _ _ _ _ hI' rfl
     walk_at "e"
noncomputable def zc8 (w : Addr) (names : List Str) (l : Led) : Prop := ∃ wd nd wes nes, (w, zaa.inst 664 wd) ∈ l ∧ (wd, zaa.dict wes) ∈ l ∧ (("named" : Str), AV.ref nd) ∈ wes ∧ (nd, zaa.dict nes) ∈ l ∧ nes.map (·.1) = names
theorem zc8.up {w : Addr} {names : List Str} {l l' : Led} (h : zc8 w names l) (k : ∀ p ∈ l, p ∈ l') : zc8 w names l' := by
 refine zgq h fun wd nd wes nes h1 h2 h3 h4 h5 => ?_
 clear h
 exact ⟨wd, nd, wes, nes, k _ h1, k _ h2, h3, k _ h4, h5⟩
theorem zgn.app {l r k : Led} {x : Addr × zaa} (p : zgn l x r) : zgn (k ++ l) x (k ++ r) := by
 induction k with
 | nil => exact p
 | cons y k ih => exact .tail ih
theorem zjb {B : zan} {A : Around} {r : Led} {Ψ : XQ} {Φ : EQ} (hK : KF B.K) (hr : A.depth + 8 < recursionLimit) (hh : A.handled = none) (hu : A.units + 60 < cLine) {fr : List Env} (hfr : A.frames = some fr) (F : FrL r fr)
  {env : Str → Option Ty} {x d w o dn : Addr} {names out : List Str} (hW : zgj w env r) (hN : zc8 w names r) (hS : zc7 names out) (hn2 : 2 ≤ names.length) (hn : names.length ≤ 1000) (hon : out.length ≤ 1000) (hlong : ∀ p, (env p).isSome = true → p.length ≤ 1000) (hout : ∀ p ∈ out, (env p).isSome = true)
  {J : Nat → List Str → List Str → Prop} {C : Prop} (hJ0 : J 0 [] [])
  (hstep : ∀ i p op done, out[i]? = some p → J i op done → ∃ I n0, HI env names I ∧ I n0 [(none, [.named p])] op done ∧ (∀ n op' done', I n [] op' done' → J (i + 1) op' done') ∧ ∀ n q ks k st op done, I n ((q, ks ++ [k]) :: st) op done → za7 env op done k = none → C)
  (h1 : ∀ op done, J out.length op done → Φ .none (zcC x d w o dn op done r))
  (h2 : C → ∀ op done e ed msg, Ψ ⟨e, 64, ed⟩ ((e, zaa.exc 64 ed) :: (ed, zaa.dict [("message", msg), ("spot", .int 0)]) :: zcC x d w o dn op done r)) :
  Fn B A (.ref 464) [.ref x] (zcC x d w o dn [] [] r) Φ Ψ := by
 refine zcx hK (by walk_at "d") fun L e hf hc Fo => ?_
 show Ex _ _ _ _ (_ :: _) _ _
 have hh2 : (A.deeper e).handled = none := hh
 have hfr2 : (A.deeper e).frames = some (e :: fr) := by show A.frames.map (e :: ·) = _; rwa [hfr]; rfl
 have pc : zaj B.K 479 = true := (kg hK 168)
 have fi : ∀ x ∈ (["world", "is_open", "done"] : List Str), findIn B.K (.ref 479) x = some none := (kg hK 185)
 have pcw : zaj B.K 664 = true := (kg hK 133)
 have fin : findIn B.K (.ref 664) "named" = some none := (kg hK 136)
 refine zgq hN fun wd nd wes nes w1 w2 w3 w4 w5 => ?_
 clear hN
 refine zai ?_
 refine zd9 (fun X l h => h.1) ?_ (by intro _; walk_at "r")
 walk_at "g"
 refine zah Fo (by walk_at "m") (za6 (n := "sorted") (kg hK 184) (by decide +kernel) (by decide)) ?_
 walk_at "g"
 refine zaq (by walk_at "m") (by walk_at "m") (by delta hEs; walk_at "m") ?_ pc (fi _ (by walk_at "m"))
 refine zaq (by walk_at "m") (by walk_at "m") w3 ?_ pcw fin
 walk_at "g"
 refine ⟨zap, zkT hh2 (by walk_at "m") w5 hn2 hn hon hS fun D => ?_⟩
 refine ⟨out.map AV.str, _, fun i l' => ∃ op done pv, J i op done ∧ l' = (D, zaa.list (out.map AV.str)) :: (L, zaa.ns [("self", some (.ref x)), ("path", pv)]) :: zcC x d w o dn op done r, _, fun _ => True, zbx hh2 (.head _), trivial, (zoy ([]) ([]) none hJ0 rfl), ?_, ?_, ?_⟩
 ·intro i l' zq65
  revert l'
  refine zfv fun op done pv _ => ?_
  exact .head _
 ·intro i y ls l' hy zq66
  revert l'
  refine zfv fun op done pv hJ => ?_
  rw [List.getElem?_map] at hy
  cases hp : out[i]? with
  | none => rw [hp] at hy; cases hy
  | some p =>
   rw [hp] at hy
   cases hy
   refine zhT (hstep i p op done hp hJ) fun I n0 HII hI0 hI1 hI2 => ?_
   walk_at "g"
   refine zao (C := 479) (d := d) (by walk_at "m") (by walk_at "m") ((kg hK 172)) ((kg hK 173)) pc (zak ["world", "is_open", "done"] rfl (by decide)) ?_
   walk_at "g"
   refine ⟨zac (kg hK 174), zab (zbH (l' := zcC x d w o dn op done ((L, zaa.ns [("self", some (.ref x)), ("path", some (.str p))]) :: (ls ++ (D, zaa.list (out.map AV.str)) :: r))) ?_
    (znc (T0 := .named p) hK (by walk_at "d") hh2 (by walk_at "d") hfr2 (FrL.cons Fo.kind hf (by walk_at "m") (F.le fun p hp => by walk_at "m")) (hW.up fun p hp => by walk_at "m") (hout p (List.mem_of_getElem? hp)) hlong hn HII hI0 (fun n op' done' hI => ?_) (fun n q ks k st op' done' hI hb e2 ed msg => ?_)))⟩
   ·exact Le.pick (.app pz2) (Le.pick (.app pz2) (Le.pick (.app pz2) (Le.pick (.app pz2) (Le.pick (.app pz1) Le.refl))))
   ·walk_at "g"
    refine ⟨(D, zaa.list (out.map AV.str)) :: (L, zaa.ns [("self", some (.ref x)), ("path", some (.str p))]) :: zcC x d w o dn op' done' r, ?_, op', done', some (.str p), hI1 _ _ _ hI, rfl⟩
    exact Le.turn (Le.pick (.tail (.tail (.tail (.tail (.tail (.app .head)))))) (Le.turn (lz4 (Le.turn (lz0 (Le.turn (lz0 (Le.turn (lz0 (Le.turn (lz0 Le.refl)))))))))))
   ·exact ⟨(iEA fr hfr2 (FrL.cons Fo.kind hf (by walk_at "m") (F.le fun p hp => by walk_at "m"))), _, (by walk_at "e" : Le ((e2, zaa.exc 64 ed) :: (ed, zaa.dict [("message", msg), ("spot", .int 0)]) :: zcC x d w o dn op' done' r) _), .head _, h2 (hI2 _ _ _ _ _ _ _ hI hb) op' done' e2 ed msg⟩
 ·intro l' zq67
  revert l'
  refine zfv fun op done pv hJ => ?_
  walk_at "g"
  rw [List.length_map] at hJ
  exact ⟨_, (by walk_at "e" : Le (zcC x d w o dn op done r) _), h1 op done hJ⟩
theorem zha {env : Str → Option Ty} : ∀ {fs : List (Str × Ty)}, Wf.WfL env fs → ∀ f ∈ fs, Wf env f.2
 | [], _, f, hf => by cases hf
 | (n, t) :: r, h, f, hf => by
  refine mcE hf ?_ fun f hf => ?_
  ·exact h.1
  ·exact zha h.2 f hf
noncomputable def zgm (c : Str → Nat) (ts : List Ty) : Nat := (ts.map (zbd c)).sum
noncomputable def zeh (c : Str → Nat) (st : List (Option Str × List Ty)) : Nat := (st.map fun f => 1 + zgm c f.2).sum
noncomputable def HG (c : Str → Nat) : List (Option Str × List Ty) → List Str → Prop
 | [], op => op = []
 | f :: rest, op => ∃ op', HG c rest op' ∧ (∀ q ∈ op, q ∈ op' ∨ f.1 = some q) ∧ ∀ k ∈ f.2, ∀ q ∈ op, zbd c k < c q
theorem HG.mono {c : Str → Nat} : ∀ {st : List (Option Str × List Ty)} {op op2 : List Str}, HG c st op → (∀ q ∈ op2, q ∈ op) → HG c st op2
 | [], op, op2, h, hs => by
  cases op2 with
  | nil => rfl
  | cons a b => have := hs a (.head _); rw [show op = [] from h] at this; cases this
 | f :: rest, op, op2, ⟨op', h1, h2, h3⟩, hs => ⟨op', h1, fun q hq => h2 q (hs q hq), fun k hk q hq => h3 k hk q (hs q hq)⟩
theorem zfr {c : Str → Nat} : ∀ {ts : List Ty} {k : Ty}, k ∈ ts → zbd c k ≤ zgm c ts
 | [], _, h => by cases h
 | t :: r, k, h => by
  show _ ≤ zbd c t + zgm c r
  rcases List.mem_cons.mp h with rfl | h
  ·walk_at "o"
  ·have := zfr (c := c) h; walk_at "o"
theorem zjT (c : Str → Nat) (a b : List Ty) : zgm c (a ++ b) = zgm c a + zgm c b := by simp [zgm]
theorem zmQ (c : Str → Nat) (a : List Ty) : zgm c a.reverse = zgm c a := by
 induction a with
 | nil => rfl
 | cons x r ih => rwa [List.reverse_cons, zjT, ih]; simp [zgm]; walk_at "o"
theorem zfH (c : Str → Nat) : ∀ fs : List (Str × Ty), zcp c fs = zgm c (fs.map (·.2))
 | [] => rfl
 | (_, t) :: r => by show zbd c t + zcp c r = _; rwa [zfH c r]; rfl
structure zg4 (env : Str → Option Ty) (c : Str → Nat) : Prop where
 lt : ∀ p T, env p = some T → zbd c T + 2 ≤ c p
theorem zjr {env : Str → Option Ty} {c : Str → Nat} (R : zg4 env c) {op dn : List Str} {k : Ty} {left : List Ty} {op' : List Str} (hw : Wf env k) (h : za7 env op dn k = some (left, op')) : 1 + zgm c left < zbd c k := by
 cases k with
 | leaf v => cases h; show 1 + 0 < 2; walk_at "o"
 | arr n t => cases h; show 1 + (zbd c t + 0) < 2 + zbd c t; walk_at "o"
 | struct fs => cases h; rwa [zmQ, ← zfH]; show 1 + zcp c fs < 2 + zcp c fs; walk_at "o"
 | named p =>
  refine xE (Option.isSome_iff_exists.mp hw) fun T hT => ?_
  have := R.lt p T hT
  unfold za7 at h
  dsimp only at h
  split at h
  ·cases h; show 1 + 0 < c p; walk_at "o"
  ·split at h
   ·cases h
   ·cases h; rwa [hT]; show 1 + (zbd c T + 0) < c p; walk_at "o"
theorem zgf {env : Str → Option Ty} {op dn : List Str} {k : Ty} {left : List Ty} {op' : List Str} (h : za7 env op dn k = some (left, op')) : ∀ q ∈ op', q ∈ op ∨ zdY k = some q ∧ k = .named q := by
 cases k with
 | leaf v => cases h; exact fun q hq => .inl hq
 | arr n t => cases h; exact fun q hq => .inl hq
 | struct fs => cases h; exact fun q hq => .inl hq
 | named p =>
  unfold za7 at h
  dsimp only at h
  split at h
  ·cases h; exact fun q hq => .inl hq
  ·split at h
   ·cases h
   ·cases h
    intro q hq
    rcases List.mem_append.mp hq with hq | hq
    ·exact .inl hq
    ·rwa [List.mem_singleton.mp hq]; exact .inr ⟨rfl, rfl⟩
theorem zma {env : Str → Option Ty} (hok : ∀ p T, env p = some T → zaV T ∧ Wf env T) {op dn : List Str} {k : Ty} {left : List Ty} {op' : List Str} (hw : Wf env k) (h : za7 env op dn k = some (left, op')) : (∀ t ∈ left, Wf env t) ∧ left.length ≤ 100 := by
 cases k with
 | leaf v => cases h; exact ⟨fun t ht => (nomatch ht), by show 0 ≤ 100; walk_at "o"⟩
 | arr n t => cases h; exact ⟨fun u hu => by rwa [List.mem_singleton.mp hu]; exact hw.2, by show 1 ≤ 100; walk_at "o"⟩
 | struct fs =>
  cases h
  refine ⟨fun t ht => ?_, by rwa [List.length_reverse, List.length_map]; exact hw.1⟩
  refine xEA (List.mem_map.mp (List.mem_reverse.mp ht)) fun f hf yq266 => ?_
  subst yq266
  exact zha hw.2 f hf
 | named p =>
  refine xE (Option.isSome_iff_exists.mp hw) fun T hT => ?_
  unfold za7 at h
  dsimp only at h
  split at h
  ·cases h; exact ⟨fun t ht => (nomatch ht), by show 0 ≤ 100; walk_at "o"⟩
  ·split at h
   ·cases h
   ·cases h; rwa [hT]; exact ⟨fun t ht => by rwa [List.mem_singleton.mp ht]; exact (hok p T hT).2, by show 1 ≤ 100; walk_at "o"⟩
noncomputable def zrp (env : Str → Option Ty) (c : Str → Nat) (names : List Str) (n : Nat) (st : List (Option Str × List Ty)) (op dn : List Str) : Prop :=
 n = zeh c st ∧ n ≤ 900000 ∧ HG c st op ∧ (∀ f ∈ st, (∀ k ∈ f.2, Wf env k) ∧ f.2.length ≤ 100) ∧ (∀ p ∈ op, p ∈ names) ∧ (∀ p ∈ dn, p ∈ names) ∧ ∀ f ∈ st, ∀ p, f.1 = some p → p ∈ names
theorem zia (c : Str → Nat) : ∀ st, st.length ≤ zeh c st
 | [] => Nat.le_refl _
 | f :: r => by show r.length + 1 ≤ (1 + zgm c f.2) + zeh c r; have := zia c r; walk_at "o"
theorem zpF {env : Str → Option Ty} {c : Str → Nat} {names : List Str} (R : zg4 env c) (hok : ∀ p T, env p = some T → zaV T ∧ Wf env T) (hdom : ∀ p, (env p).isSome = true → p ∈ names) : HI env names (zrp env c names) := by
 constructor
 ·intro n st op dn zq68
  refine zep zq68 fun h1 h2 h3 h4 h5 h6 h7 => ?_
  clear zq68
  have := zia c st
  exact (zje h4 (by walk_at "o") h5 h6 h7)
 ·intro n p ks k st op dn left op' zq69 hb
  refine zep zq69 fun h1 h2 h3 h4 h5 h6 h7 => ?_
  clear zq69
  have hw := (h4 _ (.head _)).1 k (List.mem_append_right _ (.head _))
  have hc := zjr R hw hb
  have hwl := zma hok hw hb
  have hm : zeh c ((p, ks ++ [k]) :: st) = 1 + (zgm c ks + (zbd c k + 0)) + zeh c st := by show 1 + zgm c (ks ++ [k]) + _ = _; rwa [zjT]; rfl
  have hm2 : zeh c ((zdY k, left) :: (p, ks) :: st) = 1 + zgm c left + (1 + zgm c ks + zeh c st) := rfl
  refine zdx h3 fun op0 g1 g2 g3 => ?_
  clear h3
  refine ⟨zeh c ((zdY k, left) :: (p, ks) :: st), by rwa [h1, hm, hm2]; walk_at "o", rfl, by rw [h1, hm] at h2; rwa [hm2]; walk_at "o", ⟨op, ⟨op0, g1, g2, fun j hj => g3 j (List.mem_append_left _ hj)⟩, fun q hq => (zgf hb q hq).imp id (·.1), fun j hj q hq => ?_⟩, ?_, fun q hq => ?_, h6, ?_⟩
  ·have hj2 : zbd c j ≤ zgm c left := zfr hj
   rcases zgf hb q hq with hq | ⟨_, rfl⟩
   ·have := g3 k (List.mem_append_right _ (.head _)) q hq; walk_at "o"
   ·show _ < zbd c (.named q); walk_at "o"
  ·intro f hf
   refine mcE hf ?_ fun f hf => ?_
   ·exact hwl
   ·refine mcE hf ?_ fun f hf => ?_
    ·have := h4 _ (.head _)
     exact ⟨fun j hj => this.1 j (List.mem_append_left _ hj), by have := this.2; rw [List.length_append] at this; show ks.length ≤ 100; walk_at "o"⟩
    ·exact h4 _ (.tail _ hf)
  ·rcases zgf hb q hq with hq | ⟨_, rfl⟩
   ·exact h5 q hq
   ·exact hdom q hw
  ·intro f hf
   refine mcE hf (fun q hq => ?_) fun f hf => ?_
   ·cases k with
    | named p => cases hq; exact hdom q hw
    | _ => cases hq
   ·refine mcE hf (fun q hq => ?_) fun f hf q hq => ?_
    ·exact h7 _ (.head _) q hq
    ·exact h7 _ (.tail _ hf) q hq
 ·intro n p st op dn zq70
  refine zep zq70 fun h1 h2 h3 h4 h5 h6 h7 => ?_
  clear zq70
  have hm : zeh c ((p, []) :: st) = 1 + 0 + zeh c st := rfl
  refine zdx h3 fun op0 g1 g2 g3 => ?_
  clear h3
  refine ⟨zeh c st, by rwa [h1, hm]; walk_at "o", rfl, by rw [h1, hm] at h2; walk_at "o", g1.mono fun q hq => ?_, fun f hf => h4 f (.tail _ hf), fun q hq => ?_, fun q hq => ?_, fun f hf => h7 f (.tail _ hf)⟩
  ·cases p with
   | none => rcases g2 q hq with h | h; exact h; cases h
   | some p =>
    refine xA (List.mem_filter.mp hq) fun a b => ?_
    rcases g2 q a with h | h
    ·exact h
    ·cases h; simp at b
  ·cases p with
   | none => exact h5 q hq
   | some p => exact h5 q (List.mem_filter.mp hq).1
  ·cases p with
   | none => exact h6 q hq
   | some p =>
    unfold zoo at hq
    dsimp only at hq
    split at hq
    ·exact h6 q hq
    ·rcases List.mem_append.mp hq with hq | hq
     ·exact h6 q hq
     ·rwa [List.mem_singleton.mp hq]; exact h7 _ (.head _) p rfl
theorem ziz {env : Str → Option Ty} {c : Str → Nat} {names : List Str} (R : zg4 env c) (hok : ∀ p T, env p = some T → zaV T ∧ Wf env T) (hdom : ∀ p, (env p).isSome = true → p ∈ names) (hc : ∀ p, (env p).isSome = true → c p + 1 ≤ 900000)
  {p : Str} {done : List Str} (hp : (env p).isSome = true) (hd : ∀ q ∈ done, q ∈ names) : ∃ (I : Nat → List (Option Str × List Ty) → List Str → List Str → Prop) (n0 : Nat), HI env names I ∧ I n0 [(none, [.named p])] [] done ∧ (∀ n op' done', I n [] op' done' → op' = [] ∧ ∀ q ∈ done', q ∈ names) ∧
   ∀ n q ks k st op done, I n ((q, ks ++ [k]) :: st) op done → za7 env op done k = none → False := by
 refine (zd0 (zrp env c names) (zeh c [(none, [.named p])]) (zpF R hok hdom) ⟨rfl, ?_, ⟨[], rfl, fun q hq => (nomatch hq), fun k hk q hq => (nomatch hq)⟩, ?_, fun q hq => (nomatch hq), hd, ?_⟩ ?_ ?_)
 ·have := hc p hp; show 1 + (c p + 0) + 0 ≤ _; walk_at "o"
 ·intro f hf; rwa [List.mem_singleton.mp hf]; exact ⟨fun k hk => by rwa [List.mem_singleton.mp hk]; exact hp, by show 1 ≤ 100; walk_at "o"⟩
 ·intro f hf q hq; rw [List.mem_singleton.mp hf] at hq; cases hq
 ·intro n op' done' zq71
  refine zep zq71 fun h1 h2 h3 h4 h5 h6 h7 => ?_
  clear zq71
  exact ⟨h3, h6⟩
 ·intro n q ks k st op done zq72 hb
  refine zep zq72 fun h1 h2 yq267 h4 h5 h6 h7 => ?_
  clear zq72
  obtain ⟨op0, g1, g2, g3⟩ := yq267
  cases k with
  | named p =>
   unfold za7 at hb
   dsimp only at hb
   split at hb
   ·cases hb
   ·split at hb
    ·rename_i hpo
     have := g3 (.named p) (List.mem_append_right _ (.head _)) p hpo
     exact absurd this (Nat.lt_irrefl _)
    ·cases hb
  | _ => cases hb
noncomputable def zpJ (M names : List Str) (n : Nat) (st : List (Option Str × List Ty)) (op dn : List Str) : Prop :=
 ∃ pth k rest, st = (pth, [k]) :: rest ∧ (∀ f ∈ rest, f.2 = []) ∧ (∀ f ∈ st, ∀ p, f.1 = some p → p ∈ names) ∧ (∀ q ∈ op, q ∈ M) ∧ op.Nodup ∧ (∀ q ∈ dn, q ∈ names ∧ q ∉ M) ∧
  ((∃ q, q ∈ M ∧ k = .named q ∧ n = 2 * (M.length - op.length) + 1 ∧ st.length ≤ 2 * op.length + 1) ∨ ∃ f q, q ∈ M ∧ k = .struct [(f, .named q)] ∧ n = 2 * (M.length - op.length) + 2 ∧ st.length ≤ 2 * op.length)
theorem zh1 {α : Type} {ks : List α} {k j : α} (h : ks ++ [k] = [j]) : ks = [] ∧ k = j := by
 cases ks with
 | nil => cases h; exact ⟨rfl, rfl⟩
 | cons a b => have := congrArg List.length h; simp at this
theorem zmW {env : Str → Option Ty} {M names : List Str} (hM : ∀ p ∈ M, p ∈ names) (hR : ∀ p ∈ M, ∃ f q, env p = some (.struct [(f, .named q)]) ∧ q ∈ M) (hl : M.length ≤ 1000) : HI env names (zpJ M names) := by
 have hs : ∀ p ∈ M, (env p).isSome = true := fun p hp => by (refine zbE (hR p hp) fun f q e _ => ?_); rwa [e]; rfl
 constructor
 ·intro n st op dn zq73
  refine zb4 zq73 fun pth k rest yq268 h1 h2 h3 h4 h5 h6 => ?_
  clear zq73
  subst yq268
  have ho := zbn h4 h3
  refine (zje (fun f hf => ?_) ?_ (fun p hp => hM p (h3 p hp)) (fun p hp => (h5 p hp).1) h2)
  ·refine mcE hf ?_ fun f hf => ?_
   ·refine ⟨fun j hj => ?_, by show 1 ≤ 100; walk_at "o"⟩
    rwa [List.mem_singleton.mp hj]
    rcases h6 with ⟨q, hq, rfl, _⟩ | ⟨f, q, hq, rfl, _⟩
    ·exact hs q hq
    ·exact ⟨by show 1 ≤ 100; walk_at "o", hs q hq, trivial⟩
   ·rwa [h1 f hf]; exact ⟨fun j hj => (nomatch hj), by show 0 ≤ 100; walk_at "o"⟩
  ·rcases h6 with ⟨q, hq, _, _, e⟩ | ⟨f, q, hq, _, _, e⟩ <;> walk_at "o"
 ·intro n p ks k st op dn left op' zq74 hb
  refine zb4 zq74 fun pth j rest e h1 h2 h3 h4 h5 h6 => ?_
  clear zq74
  refine xA (List.cons.inj e) fun e1 yq269 => ?_
  subst yq269
  refine xA (Prod.mk.inj e1) fun yq270 e2 => ?_
  subst yq270
  refine xA (zh1 e2) fun yq271 yq272 => ?_
  subst yq271
  subst yq272
  have hrest : ∀ f ∈ ((p, ([] : List Ty)) :: st), f.2 = [] := fun f hf => by
   refine mcE hf ?_ fun f hf => ?_
   ·rfl
   ·exact h1 f hf
  have hp2 : ∀ q, p = some q → q ∈ names := fun q hq => h2 _ (.head _) q hq
  rcases h6 with ⟨q, hq, rfl, hn, hl2⟩ | ⟨f, q, hq, rfl, hn, hl2⟩
  ·unfold za7 at hb
   dsimp only at hb
   rw [if_neg fun hd => (h5 q hd).2 hq] at hb
   split at hb
   ·cases hb
   ·rename_i hno
    refine zbE (hR q hq) fun f q' hT hq' => ?_
    rw [hT] at hb
    cases hb
    have nd : (op ++ [q]).Nodup := by
     rwa [List.nodup_append]
     exact (iAA h4 (by simp) (fun a ha b hb e => by rw [List.mem_singleton.mp hb] at e; exact hno (e ▸ ha)))
    have hsub : ∀ x ∈ op ++ [q], x ∈ M := fun x hx => by
     rcases List.mem_append.mp hx with hx | hx
     ·exact h3 x hx
     ·rwa [List.mem_singleton.mp hx]; exact hq
    have hlen := zbn nd hsub
    rw [List.length_append] at hlen
    change op.length + 1 ≤ _ at hlen
    rw [List.length_cons] at hl2
    refine ⟨2 * (M.length - (op ++ [q]).length) + 2, ?_, some q, _, _, rfl, hrest, ?_, hsub, nd, h5, .inr (zd0 f q' hq' rfl rfl ?_)⟩
    ·rwa [List.length_append]; show 2 * (M.length - (op.length + 1)) + 2 < n; walk_at "o"
    ·intro f2 hf2
     refine mcE hf2 (fun x hx => ?_) fun f2 hf2 => ?_
     ·cases hx; exact hM q hq
     ·refine mcE hf2 (fun x hx => ?_) fun f2 hf2 x hx => ?_
      ·exact hp2 x hx
      ·exact h2 f2 (.tail _ hf2) x hx
    ·rwa [List.length_append]; show st.length + 1 + 1 ≤ 2 * (op.length + 1); walk_at "o"
  ·cases hb
   rw [List.length_cons] at hl2
   refine ⟨2 * (M.length - op.length) + 1, by walk_at "o", none, _, _, rfl, hrest, ?_, h3, h4, h5, .inl (zfh q hq rfl rfl ?_)⟩
   ·intro f2 hf2
    refine mcE hf2 (fun x hx => ?_) fun f2 hf2 => ?_
    ·cases hx
    ·refine mcE hf2 (fun x hx => ?_) fun f2 hf2 x hx => ?_
     ·exact hp2 x hx
     ·exact h2 f2 (.tail _ hf2) x hx
   ·show st.length + 1 + 1 ≤ _; walk_at "o"
 ·intro n p st op dn zq75
  refine zn5 zq75 fun pth j rest e _ => ?_
  clear zq75
  have := congrArg (fun l => (l.head?.map fun f : Option Str × List Ty => f.2.length)) e
  simp at this
theorem zj4 {env : Str → Option Ty} {M names : List Str} (hM : ∀ p ∈ M, p ∈ names) (hR : ∀ p ∈ M, ∃ f q, env p = some (.struct [(f, .named q)]) ∧ q ∈ M) (hl : M.length ≤ 1000) {p : Str} {done : List Str} (hp : p ∈ M) (hd : ∀ q ∈ done, q ∈ names ∧ q ∉ M) :
  ∃ (I : Nat → List (Option Str × List Ty) → List Str → List Str → Prop) (n0 : Nat), HI env names I ∧ I n0 [(none, [.named p])] [] done ∧ ∀ n op' done', I n [] op' done' → False := by
 refine (zkD (zpJ M names) _ (zmW hM hR hl) ⟨none, .named p, [], rfl, fun f hf => (nomatch hf), ?_, fun q hq => (nomatch hq), List.nodup_nil, hd, .inl (zfh p hp rfl rfl (by show 1 ≤ 0 + 1; walk_at "o"))⟩ ?_)
 ·intro f hf q hq; rw [List.mem_singleton.mp hf] at hq; cases hq
 ·intro n op' done' zq76
  refine zn5 zq76 fun pth j rest e _ => ?_
  clear zq76
  cases e
noncomputable def zg5 (v : AV) (p : Str) (n : Nat) (st : List (Option Str × List Ty)) (op dn : List Str) : Prop :=
 (n = 5 ∧ st = [(none, [.named p])] ∧ op = [] ∧ dn = []) ∨ (n = 4 ∧ st = [(some p, [.leaf v]), (none, [])] ∧ op = [p] ∧ dn = []) ∨ (n = 3 ∧ st = [(none, []), (some p, []), (none, [])] ∧ op = [p] ∧ dn = []) ∨
  (n = 2 ∧ st = [(some p, []), (none, [])] ∧ op = [p] ∧ dn = []) ∨ (n = 1 ∧ st = [(none, [])] ∧ op = [] ∧ dn = [p]) ∨ (n = 0 ∧ st = [] ∧ op = [] ∧ dn = [p])
theorem zg5.el {v : AV} {p : Str} {G : Nat → List (Option Str × List Ty) → List Str → List Str → Prop} (a : G 5 [(none, [.named p])] [] []) (b : G 4 [(some p, [.leaf v]), (none, [])] [p] []) (c : G 3 [(none, []), (some p, []), (none, [])] [p] [])
  (d : G 2 [(some p, []), (none, [])] [p] []) (e : G 1 [(none, [])] [] [p]) (f : G 0 [] [] [p]) (n : Nat) (st : List (Option Str × List Ty)) (op dn : List Str) (h : zg5 v p n st op dn) : G n st op dn := by
 rcases h with ⟨rfl, rfl, rfl, rfl⟩ | ⟨rfl, rfl, rfl, rfl⟩ | ⟨rfl, rfl, rfl, rfl⟩ | ⟨rfl, rfl, rfl, rfl⟩ | ⟨rfl, rfl, rfl, rfl⟩ | ⟨rfl, rfl, rfl, rfl⟩
 ·exact a
 ·exact b
 ·exact c
 ·exact d
 ·exact e
 ·exact f
theorem znP {q a : Option Str} {ks : List Ty} {k : Ty} {st b : List (Option Str × List Ty)} {G : Prop} (h : (q, ks ++ [k]) :: st = (a, []) :: b) : G := absurd (Prod.mk.inj (List.cons.inj h).1).2 (by simp)
theorem zmq {α : Type} {a : α} {l : List α} {G : Prop} (h : a :: l = []) : G := nomatch h
theorem zlk {q a : Option Str} {ks : List Ty} {k j : Ty} {st b : List (Option Str × List Ty)} (h : (q, ks ++ [k]) :: st = (a, [j]) :: b) : q = a ∧ ks = [] ∧ k = j ∧ st = b := by
 have h1 := List.cons.inj h
 have h2 := Prod.mk.inj h1.1
 have h3 := zh1 h2.2
 exact ⟨h2.1, h3.1, h3.2, h1.2⟩
theorem zkt {env : Str → Option Ty} {names : List Str} {p : Str} {v : AV} (he : env p = some (.leaf v)) (hv : zeP v) (hp : p ∈ names) :
  ∃ (I : Nat → List (Option Str × List Ty) → List Str → List Str → Prop) (n0 : Nat), HI env names I ∧ I n0 [(none, [.named p])] [] [] ∧ (∀ n op' done', I n [] op' done' → op' = [] ∧ done' = [p]) ∧
   ∀ n q ks k st op done, I n ((q, ks ++ [k]) :: st) op done → za7 env op done k = none → False := by
 have hs : (env p).isSome = true := by rwa [he]; rfl
 refine (zd0 (zg5 v p) 5 ⟨?_, ?_, ?_⟩ (.inl (zjf rfl rfl rfl rfl)) ?_ ?_)
 ·refine zg5.el ?_ ?_ ?_ ?_ ?_ ?_ <;> simp [hp, Wf, hs, hv]
 ·intro n q ks k st op dn left op' h hb
  generalize hst : (q, ks ++ [k]) :: st = s0 at h
  revert hst; revert hb; revert h; revert dn; revert op; revert s0; revert n
  refine zg5.el ?_ ?_ (fun _ e => znP e) (fun _ e => znP e) (fun _ e => znP e) (fun _ e => zmq e)
  ·intro hb e
   refine zmJ (zlk e) fun e1 e2 e3 e4 => ?_
   rw [e3] at hb ⊢
   rwa [e1, e2, e4]
   unfold za7 at hb
   dsimp only at hb
   rw [if_neg (by simp), if_neg (by simp), he] at hb
   cases hb
   exact (iEA 4 (by walk_at "o") (.inr (.inl (zjf rfl rfl rfl rfl))))
  ·intro hb e
   refine zmJ (zlk e) fun e1 e2 e3 e4 => ?_
   rw [e3] at hb ⊢
   rwa [e1, e2, e4]
   cases hb
   exact (iEA 3 (by walk_at "o") (.inr (.inr (.inl (zjf rfl rfl rfl rfl)))))
 ·intro n q st op dn h
  generalize hst : (q, []) :: st = s0 at h
  revert hst; revert h; revert dn; revert op; revert s0; revert n
  refine zg5.el (fun e => nomatch e) (fun e => nomatch e) ?_ ?_ ?_ (fun e => zmq e)
  ·intro e; cases e; exact (iEA 2 (by walk_at "o") (.inr (.inr (.inr (.inl (zjf rfl rfl rfl rfl))))))
  ·intro e; cases e; refine (iEA 1 (by walk_at "o") (.inr (.inr (.inr (.inr (.inl (zjf rfl rfl ?_ rfl))))))); simp [zon]
  ·intro e; cases e; exact (iEA 0 (by walk_at "o") (.inr (.inr (.inr (.inr (.inr (zjf rfl rfl rfl rfl)))))))
 ·intro n op' done' h
  generalize hst : [] = s0 at h
  revert hst; revert h; revert done'; revert op'; revert s0; revert n
  exact zg5.el (fun e => zmq e.symm) (fun e => zmq e.symm) (fun e => zmq e.symm) (fun e => zmq e.symm) (fun e => zmq e.symm) (fun _ => ⟨rfl, rfl⟩)
 ·intro n q ks k st op done h hb
  generalize hst : (q, ks ++ [k]) :: st = s0 at h
  revert hst; revert hb; revert h; revert done; revert op; revert s0; revert n
  refine zg5.el ?_ ?_ (fun _ e => znP e) (fun _ e => znP e) (fun _ e => znP e) (fun _ e => zmq e)
  ·intro hb e
   rw [(zlk e).2.2.1] at hb
   unfold za7 at hb
   cases hb
  ·intro hb e
   rw [(zlk e).2.2.1] at hb
   cases hb
theorem zmM {o : Obj} {ws : List Value} (e : zqa o = some ws) : ∃ xs n, o = ⟨.type "tuple", none, .seq xs n, #[]⟩ ∧ ws = xs.toList := by
 obtain ⟨c, d, dt, sl⟩ := o
 cases dt with
 | seq xs n =>
  by_cases h : (c == .type "tuple" && d == none && sl.isEmpty) = true
  ·have e2 : some xs.toList = some ws := (if_pos h).symm.trans e
   have h2 := Bool.and_eq_true_iff.mp h
   have h3 := Bool.and_eq_true_iff.mp h2.1
   exact (zk4 xs n (by rwa [eq_of_beq h3.1, eq_of_beq h3.2, Array.isEmpty_iff.mp h2.2]) ((Option.some.inj e2).symm))
  ·have e2 : none = some ws := (if_neg h).symm.trans e
   exact xN e2
 | _ => exact xN e
theorem zlD {h : Heap} {f : Value → Option AV} (hf : ∀ v a, f v = some a → VR h v a) : ∀ (ws : List Value) (l : List AV), ws.mapM f = some l → VRs h ws l := by
 intro ws
 induction ws with
 | nil => intro l e; cases e; exact .nil
 | cons w r ih =>
  intro l e
  rw [List.mapM_cons] at e
  refine (Option.bind_eq_some_iff.mp e).elim fun a q => (Option.bind_eq_some_iff.mp q.2).elim fun r2 q2 => ?_
  exact (Option.some.inj q2.2) ▸ .cons (hf _ _ q.1) (ih _ q2.1)
theorem zol {K : Frag} {h : Heap} (x : K.In h) (n : Nat) : ∀ (v : Value) (a : AV), rdV K n v = some a → VR h v a := by
 induction n with
 | zero => intro v a e; exact xN e
 | succ n ih =>
  intro v a e
  cases v with
  | bool b => exact (Option.some.inj (show some (AV.bool b) = some a from e)) ▸ .bool
  | str y t => exact (Option.some.inj (show some (AV.str y) = some a from e)) ▸ .str
  | ref c =>
   refine (Option.bind_eq_some_iff.mp (show ((K.lookup c).bind zqa).bind (fun ws => (ws.mapM (rdV K n)).map .tup) = some a from e)).elim fun ws q => (Option.bind_eq_some_iff.mp q.1).elim fun o q1 => (Option.map_eq_some_iff.mp q.2).elim fun l q2 =>
    (zmM q1.2).elim fun xs t => t.elim fun k u => ?_
   have t1 : zfn h c xs := ⟨k, x _ _ (q1.1.trans (congrArg some u.1))⟩
   have t2 : VRs h xs.toList l := u.2 ▸ zlD ih ws l q2.1
   exact q2.2 ▸ .tup t1 t2
  | _ => exact xN e
theorem zbX {B : zan} {x : Str} {a : AV} (q : zeq B.K x a) : zpS B x a := (Option.bind_eq_some_iff.mp q).elim fun v e =>
 ⟨v, (Option.bind_eq_some_iff.mp e.1).elim fun o u => (show o = some v from u.2) ▸ u.1, fun h' hin => zol hin 3 v a e.2⟩
noncomputable abbrev zdh (p k t m : AV) : List (Str × AV) := [("path", p), ("package", k), ("underlying", t), ("methods", m)]
theorem zeK {B : zan} {A : Around} {l : Led} {Ψ : XQ} {Φ : EQ} (hK : KF B.K) (hr : A.depth + 2 < recursionLimit) (hh : A.handled = none) {p k t m : AV}
  (h : ∀ x d, Φ (.ref x) ((x, zaa.inst 614 d) :: (d, zaa.dict (zdh p k t m)) :: l)) : Fn B A (.ref 614) [p, k, t, m] l Φ Ψ := by
 refine zcE ((kg hK 188)) ((kg hK 189)) ((kg hK 190)) fun A' x d a1 a2 a3 a4 => ?_
 refine zeG hK (by walk_at "d") fun L e hf hc Fo => ?_
 show Ex _ _ _ _ (_ :: _) _ _
 have pc : zaj B.K 614 = true := (kg hK 134)
 have ta : ∀ x ∈ (["path", "package", "underlying", "methods"] : List Str), takerIn B.K 614 x = some none := (kg hK 193)
 walk_at "g"
 refine zam (by walk_at "m") (.tail (.tail .head)) pc (ta _ (by walk_at "m")) (fun rk nd r => zae rk (by simp) r) (by simp) ?_
 walk_at "g"
 refine zam (by walk_at "m") (.tail (.tail .head)) pc (ta _ (by walk_at "m")) (fun rk nd r => zae rk (zak ["path"] rfl (by decide)) r) (by simp) ?_
 walk_at "g"
 refine zam (by walk_at "m") (.tail (.tail .head)) pc (ta _ (by walk_at "m")) (fun rk nd r => zae rk (zak ["path", "package"] rfl (by decide)) r) (by simp) ?_
 walk_at "g"
 refine zam (by walk_at "m") (.tail (.tail .head)) pc (ta _ (by walk_at "m")) (fun rk nd r => zae rk (zak ["path", "package", "underlying"] rfl (by decide)) r) (by simp) ?_
 walk_at "g"
 exact ⟨_, Le.skip Le.refl, rfl, h x d⟩
noncomputable abbrev zrr : AV := .tup [.str "func", .tup [], .tup [.tup [.str "string"]], .bool false]
noncomputable def zqz : Ty := .leaf (.tup [.str "interface", .tup [.tup [.str "Error", zrr]]])
noncomputable def rtT : Ty := .leaf (.tup [.str "string"])
noncomputable def zqt : Ty := .leaf (.tup [.str "int", .str "int"])
noncomputable def zoB : Ty := .struct [("#state", zqt)]
noncomputable def zmv : Ty := .struct [("#count", zqt)]
noncomputable def zca : List (Str × Ty) := [("error", zqz), ("runtime.Error", rtT), ("sync.Mutex", zoB), ("sync.WaitGroup", zmv)]
structure zjx where
 p : Str
 T : Ty
 x : Addr
 d : Addr
 k : AV
 m : AV
noncomputable def zaN (rs : List zjx) : Led := rs.flatMap fun r => [(r.x, zaa.inst 614 r.d), (r.d, zaa.dict (zdh (.str r.p) r.k (zaC r.T) r.m))]
noncomputable def zba (rs : List zjx) : List (Str × AV) := rs.map fun r => (r.p, .ref r.x)
theorem zlH {B : zan} {A : Around} {l : Led} {Ψ : XQ} {Φ : EQ} (hK : KF B.K) (hr : A.depth + 4 < recursionLimit) (hh : A.handled = none)
  (h : ∀ D rs, rs.map (fun r => (r.p, r.T)) = zca → Φ (.ref D) ((D, zaa.dict (zba rs)) :: (zaN rs ++ l))) : Fn B A (.ref 625) [] l Φ Ψ := by
 refine zgF hK (by walk_at "d") fun L e hf hc Fo => ?_
 show Ex _ _ _ _ (_ :: _) _ _
 have hh2 : (A.deeper e).handled = none := hh
 walk_at "g"
 refine zgb rfl rfl (by simp) (by decide) fun d1 => ?_
 refine zb0 ?_
 walk_at "g"
 refine zh8 (znS (by simp) _ .head ?_)
 walk_at "g"
 refine zgb rfl rfl (by simp) (by decide) fun d2 => ?_
 refine zb0 ?_
 walk_at "g"
 refine zal Fo (by walk_at "m") (zbX (kg hK 187)) ?_
 walk_at "g"
 refine zb0 ?_
 walk_at "g"
 refine zal Fo (by walk_at "m") (zbX (kg hK 187)) ?_
 walk_at "g"
 refine zh8 (znS (by decide) _ .head ?_)
 walk_at "g"
 refine zgb rfl rfl (by simp) (by decide) fun d3 => ?_
 refine zb0 ?_
 walk_at "g"
 refine zb0 ?_
 walk_at "g"
 refine zal Fo (by walk_at "m") (zbX (kg hK 187)) ?_
 walk_at "g"
 refine zb0 ?_
 walk_at "g"
 refine zal Fo (by walk_at "m") (zbX (kg hK 187)) ?_
 walk_at "g"
 refine zh8 (znS (by decide) _ .head ?_)
 walk_at "g"
 refine zgb rfl rfl (by simp) (by decide) fun d4 => ?_
 refine zb0 ?_
 walk_at "g"
 refine zal Fo (by walk_at "m") (zad (kg hK 192)) ?_
 walk_at "g"
 intro Z1
 walk_at "g"
 refine ⟨zac (kg hK 191), zab (zeK hK (by walk_at "d") hh2 fun x1 y1 => ?_)⟩
 refine zb0 ?_
 walk_at "g"
 refine zal Fo (by walk_at "m") (zad (kg hK 192)) ?_
 walk_at "g"
 refine ⟨zac (kg hK 191), zab (zeK hK (by walk_at "d") hh2 fun x2 y2 => ?_)⟩
 refine zb0 ?_
 walk_at "g"
 refine zal Fo (by walk_at "m") (zad (kg hK 192)) ?_
 walk_at "g"
 refine ⟨zac (kg hK 191), zab (zeK hK (by walk_at "d") hh2 fun x3 y3 => ?_)⟩
 refine zb0 ?_
 walk_at "g"
 refine zal Fo (by walk_at "m") (zad (kg hK 192)) ?_
 walk_at "g"
 refine ⟨zac (kg hK 191), zab (zeK hK (by walk_at "d") hh2 fun x4 y4 => ?_)⟩
 refine zh8 (znS (by decide : (["error", "runtime.Error", "sync.Mutex", "sync.WaitGroup"] : List Str).Nodup) _ (.tail (.tail (.tail (.tail (.tail (.tail (.tail (.tail (.tail .head))))))))) ?_)
 walk_at "g"
 refine ⟨_, ?_, h d4 [⟨"error", zqz, x1, y1, .str "", .ref Z1⟩, ⟨"runtime.Error", rtT, x2, y2, .str "runtime", .ref d1⟩, ⟨"sync.Mutex", zoB, x3, y3, .str "sync", .ref d2⟩, ⟨"sync.WaitGroup", zmv, x4, y4, .str "sync", .ref d3⟩] rfl⟩
 exact Le.pick (pzt pz1) (lz6 (lz6 (lz4 (lz4 (lz2 (lz2 (lz0 (lz0 (Le.skip (Le.skip (Le.skip (Le.skip (Le.skip Le.refl)))))))))))))
noncomputable abbrev zaJ (nd c0 c1 c2 c3 c4 c5 c6 c7 : Addr) (lk lp lz : AV) : List (Str × AV) := [("packages", .none), ("named", .ref nd), ("globals", .ref c0), ("consts", .ref c1), ("funcs", .ref c2), ("bodies", .ref c3), ("files", .ref c4), ("scopes", .ref c5), ("order", .ref c6), ("starts", .ref c7), ("settle", .none), ("late_keys", lk), ("late_parts", lp), ("late_sizes", lz), ("is_whole", .bool true)]
theorem zhU {B : zan} {A : Around} {l : Led} {Ψ : XQ} {Φ : EQ} (hK : KF B.K) (hr : A.depth + 6 < recursionLimit) (hh : A.handled = none)
  (h : ∀ w wd nd c0 c1 c2 c3 c4 c5 c6 c7 lk lp lz rs, rs.map (fun r => (r.p, r.T)) = zca → Φ (.ref w) ((w, zaa.inst 664 wd) :: (wd, zaa.dict (zaJ nd c0 c1 c2 c3 c4 c5 c6 c7 (.ref lk) (.ref lp) (.ref lz))) :: (nd, zaa.dict (zba rs)) :: (lk, zaa.list []) :: (lp, zaa.list []) :: (lz, zaa.list []) :: (zaN rs ++ l))) : Fn B A (.ref 664) [] l Φ Ψ := by
 refine zcE ((kg hK 194)) ((kg hK 195)) ((kg hK 196)) fun A' x d a1 a2 a3 a4 => ?_
 refine zgG hK (by walk_at "d") fun L e hf hc Fo => ?_
 show Ex _ _ _ _ (_ :: _) _ _
 have hh2 : (A'.deeper e).handled = none := by show A'.handled = none; rwa [a1, hh]
 have pc : zaj B.K 664 = true := (kg hK 133)
 have ta : ∀ x ∈ zar, takerIn B.K 664 x = some none := (kg hK 201)
 walk_at "g"
 refine zam (by walk_at "m") (by walk_at "u") pc (ta _ (by delta zar; walk_at "m")) (fun rk nd r => zae rk (by simp) r) (by simp) ?_
 walk_at "g"
 refine zal Fo (by walk_at "m") (zad (kg hK 200)) ?_
 walk_at "g"
 refine ⟨zac (kg hK 199), zab (zlH hK (by show A'.depth + 1 + 4 < _; walk_at "o") hh2 fun nd rs hrs => ?_)⟩
 walk_at "g"
 refine zam (by walk_at "m") (by walk_at "u") pc (ta _ (by delta zar; walk_at "m")) (fun rk nd r => zae rk (zak ["packages"] rfl (by decide)) r) (by simp) ?_
 walk_at "g"
 intro z2
 walk_at "g"
 refine zam (by walk_at "m") (by walk_at "u") pc (ta _ (by delta zar; walk_at "m")) (fun rk nd r => zae rk (zak ["packages", "named"] rfl (by decide)) r) (by simp) ?_
 walk_at "g"
 intro z3
 walk_at "g"
 refine zam (by walk_at "m") (by walk_at "u") pc (ta _ (by delta zar; walk_at "m")) (fun rk nd r => zae rk (zak ["packages", "named", "globals"] rfl (by decide)) r) (by simp) ?_
 walk_at "g"
 intro z4
 walk_at "g"
 refine zam (by walk_at "m") (by walk_at "u") pc (ta _ (by delta zar; walk_at "m")) (fun rk nd r => zae rk (zak ["packages", "named", "globals", "consts"] rfl (by decide)) r) (by simp) ?_
 walk_at "g"
 intro z5
 walk_at "g"
 refine zam (by walk_at "m") (by walk_at "u") pc (ta _ (by delta zar; walk_at "m")) (fun rk nd r => zae rk (zak ["packages", "named", "globals", "consts", "funcs"] rfl (by decide)) r) (by simp) ?_
 walk_at "g"
 intro z6
 walk_at "g"
 refine zam (by walk_at "m") (by walk_at "u") pc (ta _ (by delta zar; walk_at "m")) (fun rk nd r => zae rk (zak ["packages", "named", "globals", "consts", "funcs", "bodies"] rfl (by decide)) r) (by simp) ?_
 walk_at "g"
 intro z7
 walk_at "g"
 refine zam (by walk_at "m") (by walk_at "u") pc (ta _ (by delta zar; walk_at "m")) (fun rk nd r => zae rk (zak ["packages", "named", "globals", "consts", "funcs", "bodies", "files"] rfl (by decide)) r) (by simp) ?_
 walk_at "g"
 intro z8
 walk_at "g"
 refine zam (by walk_at "m") (by walk_at "u") pc (ta _ (by delta zar; walk_at "m")) (fun rk nd r => zae rk (zak ["packages", "named", "globals", "consts", "funcs", "bodies", "files", "scopes"] rfl (by decide)) r) (by simp) ?_
 walk_at "g"
 intro z9
 walk_at "g"
 refine zam (by walk_at "m") (by walk_at "u") pc (ta _ (by delta zar; walk_at "m")) (fun rk nd r => zae rk (zak ["packages", "named", "globals", "consts", "funcs", "bodies", "files", "scopes", "order"] rfl (by decide)) r) (by simp) ?_
 walk_at "g"
 refine zam (by walk_at "m") (by walk_at "u") pc (ta _ (by delta zar; walk_at "m")) (fun rk nd r => zae rk (zak ["packages", "named", "globals", "consts", "funcs", "bodies", "files", "scopes", "order", "starts"] rfl (by decide)) r) (by simp) ?_
 walk_at "g"
 intro z11
 walk_at "g"
 refine zam (by walk_at "m") (by walk_at "u") pc (ta _ (by delta zar; walk_at "m")) (fun rk nd r => zae rk (zak ["packages", "named", "globals", "consts", "funcs", "bodies", "files", "scopes", "order", "starts", "settle"] rfl (by decide)) r) (by simp) ?_
 walk_at "g"
 intro z12
 walk_at "g"
 refine zam (by walk_at "m") (by walk_at "u") pc (ta _ (by delta zar; walk_at "m")) (fun rk nd r => zae rk (zak ["packages", "named", "globals", "consts", "funcs", "bodies", "files", "scopes", "order", "starts", "settle", "late_keys"] rfl (by decide)) r) (by simp) ?_
 walk_at "g"
 intro z13
 walk_at "g"
 refine zam (by walk_at "m") (by walk_at "u") pc (ta _ (by delta zar; walk_at "m")) (fun rk nd r => zae rk (zak ["packages", "named", "globals", "consts", "funcs", "bodies", "files", "scopes", "order", "starts", "settle", "late_keys", "late_parts"] rfl (by decide)) r) (by simp) ?_
 walk_at "g"
 refine zam (by walk_at "m") (by walk_at "u") pc (ta _ (by delta zar; walk_at "m")) (fun rk nd r => zae rk (zak ["packages", "named", "globals", "consts", "funcs", "bodies", "files", "scopes", "order", "starts", "settle", "late_keys", "late_parts", "late_sizes"] rfl (by decide)) r) (by simp) ?_
 walk_at "g"
 exact ⟨_, Le.pick (.tail (.tail (.tail (.tail (pzt (.app pz1)))))) (Le.pick (.tail (.tail (.tail (.tail (pzt (.app pz1)))))) (Le.pick (pzt pz3) (lz2 (lz1 (lz0 (Le.skip (Le.skip (Le.skip (Le.skip (Le.skip (Le.skip (Le.skip (Le.skip (Le.app (Le.skip Le.refl))))))))))))))), rfl, h x d nd z2 z3 z4 z5 z6 z7 z8 z9 z11 z12 z13 rs hrs⟩
noncomputable def za9 (mark : Str) (Ts : List Ty) : List (Str × Ty) := zca ++ Ts.zipIdx.map fun q => (nmP mark q.2, q.1)
theorem zhc (mark : Str) (Ts : List Ty) (i : Nat) (T : Ty) (h : Ts[i]? = some T) : za9 mark (Ts.take (i + 1)) = za9 mark (Ts.take i) ++ [(nmP mark i, T)] := by
 have hi : i < Ts.length := (List.getElem?_eq_some_iff.mp h).1
 delta za9
 rwa [zaM h, List.zipIdx_append, List.map_append, ← List.append_assoc]
 congr 1
 simp [List.length_take, Nat.min_eq_left (Nat.le_of_lt hi)]
theorem zeM (a b : List zjx) : zaN (a ++ b) = zaN a ++ zaN b := by delta zaN; rw [List.flatMap_append]
theorem zmr {a b z : Addr × zaa} {P Q : Led} : Le (P ++ (a :: b :: Q)) (a :: b :: z :: (P ++ Q)) := Le.turn (lz0 (Le.turn (lz0 (Le.skip Le.refl))))
theorem zhb (mark : Str) (Ts : List Ty) (i : Nat) : ((za9 mark (Ts.take i)).map (·.1)).Sublist ((za9 mark Ts).map (·.1)) := by
 refine List.Sublist.map _ ?_
 conv => rhs; rw [← List.take_append_drop i Ts]
 delta za9
 rwa [List.zipIdx_append, List.map_append, ← List.append_assoc]
 exact List.sublist_append_left _ _
theorem ziJ (mark : Str) (Ts : List Ty) : (za9 mark Ts).length = 4 + Ts.length := by
 delta za9; rwa [List.length_append, List.length_map, List.length_zipIdx]; rfl
theorem zeL (rs : List zjx) : (zba rs).map (·.1) = (rs.map fun r => (r.p, r.T)).map (·.1) := by delta zba; rwa [List.map_map, List.map_map]; rfl
noncomputable abbrev zfQ (w wd nd c0 c1 c2 c3 c4 c5 c6 c7 lk lp lz : Addr) (rs : List zjx) (l : Led) : Led := (w, zaa.inst 664 wd) :: (wd, zaa.dict (zaJ nd c0 c1 c2 c3 c4 c5 c6 c7 (.ref lk) (.ref lp) (.ref lz))) :: (nd, zaa.dict (zba rs)) :: (lk, zaa.list []) :: (lp, zaa.list []) :: (lz, zaa.list []) :: (zaN rs ++ l)
set_option maxHeartbeats 4000000 in
theorem zeO {B : zan} {A : Around} {l : Led} {Ψ : XQ} {Φ : EQ} (hK : KF B.K) (hr : A.depth + 8 < recursionLimit) (hh : A.handled = none) {mark : Str} {t : Addr} {Ts : List Ty} (ht : (t, zaa.list (Ts.map zaC)) ∈ l) (hm : mark.length ≤ 10) (hn : Ts.length < 100)
  (hnd : ((za9 mark Ts).map (·.1)).Nodup)
  (h : ∀ w wd nd c0 c1 c2 c3 c4 c5 c6 c7 lk lp lz rs, rs.map (fun r => (r.p, r.T)) = za9 mark Ts → Φ (.ref w) (zfQ w wd nd c0 c1 c2 c3 c4 c5 c6 c7 lk lp lz rs l)) : Fn B A (.ref 720) [.str mark, .ref t] l Φ Ψ := by
 refine zhl hK (by walk_at "d") fun L e hf hc Fo => ?_
 show Ex _ _ _ _ (_ :: _) _ _
 have hh2 : (A.deeper e).handled = none := hh
 have pc : zaj B.K 664 = true := (kg hK 133)
 have fin : findIn B.K (.ref 664) "named" = some none := (kg hK 136)
 walk_at "g"
 refine zal Fo (by walk_at "m") (zad (kg hK 198)) ?_
 walk_at "g"
 refine ⟨zac (kg hK 197), zab (zhU hK (by walk_at "d") hh2 fun w wd nd c0 c1 c2 c3 c4 c5 c6 c7 lk lp lz rs0 hrs0 => ?_)⟩
 walk_at "s"
 refine zai ?_
 refine zd9 (fun _ _ x => x.elim) ?_ (by intro _; walk_at "r")
 walk_at "g"
 refine zah Fo (by walk_at "m") (zaO (n := "enumerate") (kg hK 132) zcG (by decide)) ?_
 walk_at "g"
 refine ⟨zaA, zkV (a := t) (xs := Ts.map zaC) (by walk_at "m") fun en it o hne hc' hd' => ?_⟩
 refine ⟨zd4 (Ts.map zaC), _, fun i l' => ∃ rs kv tv, rs.map (fun r => (r.p, r.T)) = za9 mark (Ts.take i) ∧ l' = (L, zaa.ns [("mark", some (.str mark)), ("types", some (.ref t)), ("world", some (.ref w)), ("k", kv), ("T", tv)]) :: zfQ w wd nd c0 c1 c2 c3 c4 c5 c6 c7 lk lp lz rs l, _, zkA, zdn (l3 := (L, zaa.ns [("mark", some (.str mark)), ("types", some (.ref t)), ("world", some (.ref w)), ("k", none), ("T", none)]) :: zfQ w wd nd c0 c1 c2 c3 c4 c5 c6 c7 lk lp lz rs0 l) ?_ (zky hh2 hne hc' hd'), trivial, (zoy rs0 none none ?_ rfl), ?_, ?_, ?_⟩
 ·exact Le.pick (.tail (.tail (.tail (.tail (.tail (.tail (.app .head))))))) (lz0 (lz0 (lz0 (lz0 (lz0 (lz0 (Le.refl)))))))
 ·rwa [hrs0]; delta za9; simp
 ·intro i l' zq77
  revert l'
  refine zfv fun rs kv tv _ => ?_
  walk_at "m"
 ·intro i y ls l' hy zq78
  revert l'
  refine zfv fun rs kv tv hrs => ?_
  refine xEA (zeZ hy) fun z hz yq292 => ?_
  subst yq292
  rw [List.getElem?_map] at hz
  cases hT : Ts[i]? with
  | none => rw [hT] at hz; cases hz
  | some T =>
   rw [hT] at hz
   cases hz
   have hi : i < Ts.length := (List.getElem?_eq_some_iff.mp hT).1
   have hw := zhc mark Ts i T hT
   have hnl : (Str.ofString (toString (i : Int))).length ≤ 10 := zch (by walk_at "o") (by walk_at "o")
   walk_at "g"
   refine zal Fo (by walk_at "m") (zad (kg hK 192)) ?_
   walk_at "g"
   refine zaR (by show 2 + mark.length ≤ _; walk_at "o") ?_
   walk_at "g"
   refine zah Fo (by walk_at "m") (zaO (n := "str") (kg hK 127) zbK (by decide)) ?_
   walk_at "g"
   refine ⟨zaA, zbh (zbf (by walk_at "o") (by walk_at "o")) ?_⟩
   walk_at "g"
   refine zaR (by rwa [zcV]; have e2 : (Str.ofString "m.").length = 2 := (by decide +kernel); walk_at "o") ?_
   walk_at "g"
   intro Z
   walk_at "g"
   refine ⟨zac (kg hK 191), zab (zeK hK (by walk_at "d") hh2 fun x d => ?_)⟩
   walk_at "g"
   refine zaq (by walk_at "m") (by walk_at "m") (by walk_at "m") ?_ pc fin
   walk_at "g"
   refine zaR (by show 2 + mark.length ≤ _; walk_at "o") ?_
   walk_at "g"
   refine zah Fo (by walk_at "m") (zaO (n := "str") (kg hK 127) zbK (by decide)) ?_
   walk_at "g"
   refine ⟨zaA, zbh (zbf (by walk_at "o") (by walk_at "o")) ?_⟩
   walk_at "g"
   refine zaR (by rwa [zcV]; have e2 : (Str.ofString "m.").length = 2 := (by decide +kernel); walk_at "o") ?_
   walk_at "g"
   have hkeys : (zba rs).map (·.1) = (za9 mark (Ts.take i)).map (·.1) := by rwa [zeL, hrs]
   have hnew : nmP mark i ∉ (zba rs).map (·.1) := by
    have := (zhb mark Ts (i + 1)).nodup hnd
    rw [hw, List.map_append, List.nodup_append] at this
    rwa [hkeys]
    exact fun q => this.2.2 _ q _ (.head _) rfl
   have hlen : (zba rs).length ≤ 200 := by
    have e2 := congrArg List.length hkeys
    rw [List.length_map, List.length_map, ziJ, List.length_take] at e2
    walk_at "o"
   refine zb6 (es' := zba rs ++ [(nmP mark i, .ref x)]) (.tail (.tail (.tail (.app (.tail (.tail (.tail .head))))))) (fun rk nd r => zae rk hnew r) (fun _ => by walk_at "o") ?_
   walk_at "g"
   refine ⟨(L, zaa.ns [("mark", some (.str mark)), ("types", some (.ref t)), ("world", some (.ref w)), ("k", some (.int i)), ("T", some (zaC T))]) :: zfQ w wd nd c0 c1 c2 c3 c4 c5 c6 c7 lk lp lz (rs ++ [⟨nmP mark i, T, x, d, .str "m", .ref Z⟩]) l, ?_, rs ++ [⟨nmP mark i, T, x, d, .str "m", .ref Z⟩], _, _, by rwa [List.map_append, hrs, hw]; rfl, rfl⟩
   have e1 : zba (rs ++ [⟨nmP mark i, T, x, d, .str "m", .ref Z⟩]) = zba rs ++ [(nmP mark i, .ref x)] := by delta zba; rwa [List.map_append]; rfl
   have key := zmr (a := (x, zaa.inst 614 d)) (b := (d, zaa.dict (zdh (.str (nmP mark i)) (.str "m") (zaC T) (.ref Z)))) (z := (Z, zaa.dict [])) (P := ls ++ ((L, zaa.ns [("mark", some (.str mark)), ("types", some (.ref t)), ("world", some (.ref w)), ("k", some (.int i)), ("T", some (zaC T))]) :: (w, zaa.inst 664 wd) :: (wd, zaa.dict (zaJ nd c0 c1 c2 c3 c4 c5 c6 c7 (.ref lk) (.ref lp) (.ref lz))) :: (nd, zaa.dict (zba rs ++ [(nmP mark i, .ref x)])) :: (lk, zaa.list []) :: (lp, zaa.list []) :: (lz, zaa.list []) :: zaN rs)) (Q := l)
   rw [List.append_assoc, List.append_assoc] at key
   show Le (ls ++ (_ :: _ :: _ :: (nd, zaa.dict (zba (rs ++ [_]))) :: _ :: _ :: _ :: (zaN (rs ++ [_]) ++ l))) _
   rwa [zeM, e1, List.append_assoc]
   exact key
 ·intro l' zq79
  revert l'
  refine zfv fun rs kv tv hrs => ?_
  rw [zcK, List.length_map, List.take_length] at hrs
  walk_at "g"
  exact ⟨_, Le.skip Le.refl, h w wd nd c0 c1 c2 c3 c4 c5 c6 c7 lk lp lz rs hrs⟩
theorem zlM {B : zan} {A : Around} {l : Led} {Ψ : XQ} {Φ : EQ} (hK : KF B.K) (hr : A.depth + 2 < recursionLimit) {w : Addr}
  (h : ∀ x d o dn, Φ (.ref x) (zcC x d w o dn [] [] l)) : Fn B A (.ref 479) [.ref w] l Φ Ψ := by
 refine zcE ((kg hK 178)) ((kg hK 179)) ((kg hK 180)) fun A' x d a1 a2 a3 a4 => ?_
 refine zfg hK (by walk_at "d") fun L e hf hc Fo => ?_
 show Ex _ _ _ _ (_ :: _) _ _
 have pc : zaj B.K 479 = true := (kg hK 168)
 have ta : ∀ x ∈ (["world", "is_open", "done"] : List Str), takerIn B.K 479 x = some none := (kg hK 186)
 walk_at "g"
 refine zam (by walk_at "m") (.tail (.tail .head)) pc (ta _ (by walk_at "m")) (fun rk nd r => zae rk (by simp) r) (by simp) ?_
 walk_at "g"
 intro o
 walk_at "g"
 refine zam (by walk_at "m") (.tail (.tail (.tail .head))) pc (ta _ (by walk_at "m")) (fun rk nd r => zae rk (zak ["world"] rfl (by decide)) r) (by simp) ?_
 walk_at "g"
 intro dn
 walk_at "g"
 refine zam (by walk_at "m") (.tail (.tail (.tail (.tail .head)))) pc (ta _ (by walk_at "m")) (fun rk nd r => zae rk (zak ["world", "is_open"] rfl (by decide)) r) (by simp) ?_
 walk_at "g"
 refine ⟨_, ?_, rfl, h x d o dn⟩
 exact lz3 (lz3 (lz1 (lz0 (Le.skip Le.refl))))
noncomputable def zmF (p1 p2 p3 p4 p5 : Pos) : Prop := ∀ env : Env, eval (.Call (.Attribute (.Call (.Name "Holding" p1) [.Name "world" p2] [] p3) "look_at_all" p4) [] [] p5) env = (do
 let ov ← eval (.Call (.Name "Holding" p1) [.Name "world" p2] [] p3) env
 standAt p4.atName
 let (f, first) ← holding [ov] (getMethod ov "look_at_all" (do return (← importBound (.Call (.Name "Holding" p1) [.Name "world" p2] [] p3) env).getD true))
 callWith p5 f first (backTo p5 (starEach [] env)) (backToKw p5 (keywordEach [] env)))
theorem zkE {B : zan} {A : Around} {e : Env} {l : Led} {Ψ : XQ} {Φ : EQ} (hK : KF B.K) (hr : A.depth + 10 < recursionLimit) (hh : A.handled = none) (hu : A.units + 70 < cLine) {fr : List Env} (hfr : A.frames = some fr) (F : FrL l fr)
  {c0 L w : Addr} (Fo : zaf e L [] ["Holding"] [] [("world", c0)]) (hw : (c0, zaa.cell (some (.ref w))) ∈ l) {p1 p2 p3 p4 p5 : Pos} (he : zmF p1 p2 p3 p4 p5)
  {env : Str → Option Ty} {names out : List Str} (hW : zgj w env l) (hN : zc8 w names l) (hS : zc7 names out) (hn2 : 2 ≤ names.length) (hn : names.length ≤ 1000) (hon : out.length ≤ 1000) (hlong : ∀ p, (env p).isSome = true → p.length ≤ 1000) (hout : ∀ p ∈ out, (env p).isSome = true)
  {J : Nat → List Str → List Str → Prop} {C : Prop} (hJ0 : J 0 [] [])
  (hstep : ∀ i p op done, out[i]? = some p → J i op done → ∃ I n0, HI env names I ∧ I n0 [(none, [.named p])] op done ∧ (∀ n op' done', I n [] op' done' → J (i + 1) op' done') ∧ ∀ n q ks k st op done, I n ((q, ks ++ [k]) :: st) op done → za7 env op done k = none → C)
  (h1 : ∀ op done l2, J out.length op done → Le l l2 → Φ .none l2)
  (h2 : C → ∀ e ed msg l2, Le ((e, zaa.exc 64 ed) :: (ed, zaa.dict [("message", msg), ("spot", .int 0)]) :: l) l2 → Ψ ⟨e, 64, ed⟩ l2) :
  Ev B A e l (.Call (.Attribute (.Call (.Name "Holding" p1) [.Name "world" p2] [] p3) "look_at_all" p4) [] [] p5) Φ Ψ := by
 have pc : zaj B.K 479 = true := (kg hK 168)
 refine zkN ?_ (he e) (by walk_at "r")
 walk_at "g"
 refine zal Fo (by walk_at "m") (zad (kg hK 182)) ?_
 walk_at "g"
 refine zgt Fo (by walk_at "m") hw ?_
 walk_at "g"
 refine ⟨zac (kg hK 181), zab (zlM hK (by walk_at "d") fun x d o dn => ?_)⟩
 walk_at "g"
 refine zao (C := 479) (d := d) (by walk_at "m") (by walk_at "m") ((kg hK 175)) ((kg hK 176)) pc (zak ["world", "is_open", "done"] rfl (by decide)) ?_
 walk_at "g"
 refine ⟨zac (kg hK 177), zab (zjb hK (by walk_at "d") hh (by walk_at "o") hfr F hW hN hS hn2 hn hon hlong hout hJ0 hstep (fun op done hJ => ?_) (fun hC op done e2 ed msg => ?_))⟩
 ·exact h1 op done _ hJ (by walk_at "e")
 ·exact h2 hC e2 ed msg _ (lz0 (lz0 (by walk_at "e")))
theorem zew {B : zan} {A : Around} {l : Led} {Ψ : XQ} {Φ : EQ} (hK : KF B.K) (hr : A.depth + 20 < recursionLimit) (hh : A.handled = none) (hu : A.units + 100 < cLine) {fr : List Env} (hfr : A.frames = some fr) (F : FrL l fr)
  {f c' c0 w : Addr} {qual : Str} {params : Arguments} {scope : Scope} {pm ctv : Value} {oc : Obj} {p1 p2 p3 p4 p5 : Pos} (he : zmF p1 p2 p3 p4 p5)
  (hf : (f, zaa.raw (zlG qual params (.Call (.Attribute (.Call (.Name "Holding" p1) [.Name "world" p2] [] p3) "look_at_all" p4) [] [] p5) scope [("world", c0)] pm c' ctv)) ∈ l) (hc : (c', zaa.raw oc) ∈ l) (ho : znX oc qual)
  (ok : zjd scope [] ["Holding"] ["world"] = true)
  (hbind : bindArgs (kla_fn "<lambda>" qual params (.Call (.Attribute (.Call (.Name "Holding" p1) [.Name "world" p2] [] p3) "look_at_all" p4) [] [] p5) scope [("world", c0)] pm (.ref c') ctv) ⟨[], []⟩ = pure []) (hw : (c0, zaa.cell (some (.ref w))) ∈ l)
  {env : Str → Option Ty} {names out : List Str} (hW : zgj w env l) (hN : zc8 w names l) (hS : zc7 names out) (hn2 : 2 ≤ names.length) (hn : names.length ≤ 1000) (hon : out.length ≤ 1000) (hlong : ∀ p, (env p).isSome = true → p.length ≤ 1000) (hout : ∀ p ∈ out, (env p).isSome = true)
  {J : Nat → List Str → List Str → Prop} {C : Prop} (hJ0 : J 0 [] [])
  (hstep : ∀ i p op done, out[i]? = some p → J i op done → ∃ I n0, HI env names I ∧ I n0 [(none, [.named p])] op done ∧ (∀ n op' done', I n [] op' done' → J (i + 1) op' done') ∧ ∀ n q ks k st op done, I n ((q, ks ++ [k]) :: st) op done → za7 env op done k = none → C)
  (h1 : ∀ op done, J out.length op done → Φ .none l) (h2 : C → Φ (.int 0) l) :
  Fn B A (.ref 734) [.ref f] l Φ Ψ := by
 refine zjY hK (by walk_at "d") hh hfr F (fun L n => zeR (.tail _ hf)) fun e L hfr2 F2 => zab ?_
 refine zkK (ps := []) (gs' := ["Holding"]) (cs := ["world"]) (by walk_at "d") (.tail _ hf) (.tail _ hc) ho ok rfl rfl (fun vs hv => ?_) fun L2 e2 hf2 Fo2 => ?_
 ·rwa [List.eq_nil_of_length_eq_zero hv]; exact hbind
 ·have hfr3 : ((A.deeper e).deeper e2).frames = some (e2 :: e :: fr) := by show (A.deeper e).frames.map (e2 :: ·) = _; rwa [hfr2]; rfl
  refine zkE (A := (A.deeper e).deeper e2) hK (by show A.depth + 1 + 1 + 10 < _; walk_at "o") hh (by show A.units + 3 + 3 + 70 < _; walk_at "o") hfr3 (FrL.cons Fo2.kind hf2 (.head _) (F2.le fun p hp => .tail _ hp)) Fo2 (.tail _ (.tail _ hw)) he (hW.up fun p hp => .tail _ (.tail _ hp)) (hN.up fun p hp => .tail _ (.tail _ hp)) hS hn2 hn hon hlong hout hJ0 hstep (fun op done l2 hJ hle => ?_) (fun hC e3 ed msg l2 hle => ?_)
  ·exact ⟨_, hle, _, Le.skip Le.refl, h1 op done hJ⟩
  ·refine ⟨(iEA (e :: fr) hfr3 ?_), _, hle, .head _, rfl, ?_, msg, .int 0, l, rfl, lz0 (lz0 (Le.skip Le.refl)), h2 hC⟩
   ·exact (FrL.cons Fo2.kind hf2 (.head _) (F2.le fun p hp => .tail _ hp) : FrL ((L2, _) :: _) _).le fun p hp => hle.mem p (.tail _ (.tail _ hp))
   ·exact F2.le fun p hp => .tail _ (.tail _ (.tail _ hp))
noncomputable def zbJ (N : List (Str × Ty)) (p : Str) : Option Ty := (N.find? fun q => q.1 == p).map (·.2)
theorem zck {N : List (Str × Ty)} {p : Str} {T : Ty} (h : zbJ N p = some T) : (p, T) ∈ N := by
 unfold zbJ at h
 cases e : N.find? fun q => q.1 == p with
 | none => rw [e] at h; cases h
 | some q =>
  rw [e] at h
  cases h
  have h1 := List.mem_of_find?_eq_some e
  have h2 := List.find?_some e
  have h3 : q.1 = p := eq_of_beq h2
  rwa [← h3]; exact h1
theorem zaF {N : List (Str × Ty)} {p : Str} : (zbJ N p).isSome = true ↔ p ∈ N.map (·.1) := by
 unfold zbJ
 rwa [Option.isSome_map, List.find?_isSome]
 constructor
 ·intro zq80
  refine xEA zq80 fun q hq e => ?_
  clear zq80
  rwa [← (eq_of_beq e : q.1 = p)]; exact List.mem_map_of_mem hq
 ·intro h
  refine xEA (List.mem_map.mp h) fun q hq e => ?_
  exact (iEA q hq (by rwa [e]; exact beq_self_eq_true p))
theorem zos {rs : List zjx} {r : zjx} (h : r ∈ rs) : (r.x, zaa.inst 614 r.d) ∈ zaN rs ∧ (r.d, zaa.dict (zdh (.str r.p) r.k (zaC r.T) r.m)) ∈ zaN rs := by
 delta zaN
 exact ⟨List.mem_flatMap.mpr (iEA r h (.head _)), List.mem_flatMap.mpr (iEA r h mz1)⟩
theorem zbM {w wd nd c0 c1 c2 c3 c4 c5 c6 c7 lk lp lz : Addr} {rs : List zjx} {l l2 : Led} {N N2 : List (Str × Ty)} (h : ∀ p ∈ zfQ w wd nd c0 c1 c2 c3 c4 c5 c6 c7 lk lp lz rs l, p ∈ l2) (hrs : rs.map (fun r => (r.p, r.T)) = N) (hs : ∀ q ∈ N2, q ∈ N) (hok : ∀ p T, zbJ N2 p = some T → zaV T ∧ Wf (zbJ N2) T) : zgj w (zbJ N2) l2 := by
 refine ⟨(zdP wd nd _ (zba rs) (h _ (.head _)) (h _ mz1) rfl mz1 (h _ mz2) (fun p T e => ?_)), hok⟩
 have hm := hs _ (zck e)
 rw [← hrs] at hm
 refine xEA (List.mem_map.mp hm) fun r hr e2 => ?_
 cases e2
 have := zos hr
 refine (zhz r.x r.d (zdh (.str r.p) r.k (zaC r.T) r.m) (List.mem_map_of_mem (f := fun r : zjx => (r.p, AV.ref r.x)) hr) (h _ ?_) (h _ ?_) mz2)
 ·exact .tail _ (.tail _ (.tail _ (.tail _ (.tail _ (.tail _ (List.mem_append_left _ this.1))))))
 ·exact .tail _ (.tail _ (.tail _ (.tail _ (.tail _ (.tail _ (List.mem_append_left _ this.2))))))
theorem zdA {w wd nd c0 c1 c2 c3 c4 c5 c6 c7 lk lp lz : Addr} {rs : List zjx} {l l2 : Led} {N : List (Str × Ty)} (h : ∀ p ∈ zfQ w wd nd c0 c1 c2 c3 c4 c5 c6 c7 lk lp lz rs l, p ∈ l2) (hrs : rs.map (fun r => (r.p, r.T)) = N) : zc8 w (N.map (·.1)) l2 :=
 ⟨wd, nd, _, zba rs, h _ (.head _), h _ mz1, .tail _ (.head _), h _ mz2, by (rewrite [zeL, hrs]; with_reducible rfl)⟩
noncomputable def znf : AV → Bool
 | .tup (.str s :: _) => !(s == "named") && !(s == "array") && !(s == "struct")
 | _ => false
theorem zic {v : AV} (h : znf v = true) : zeP v := by
 unfold znf at h
 split at h
 ·simp only [Bool.and_eq_true, Bool.not_eq_true', beq_eq_false_iff_ne] at h
  exact ⟨h.1.1, h.1.2, h.2⟩
 ·cases h
mutual
noncomputable def wfB (ns : List Str) : Ty → Bool
 | .leaf v => znf v
 | .named p => ns.contains p
 | .arr n t => decide (0 ≤ n ∧ n ≤ 2 ^ 20) && wfB ns t
 | .struct fs => decide (fs.length ≤ 100) && zpT ns fs
noncomputable def zpT (ns : List Str) : List (Str × Ty) → Bool
 | [] => true
 | (_, t) :: r => wfB ns t && zpT ns r
end
mutual
theorem zjF {N : List (Str × Ty)} : ∀ T : Ty, wfB (N.map (·.1)) T = true → Wf (zbJ N) T
 | .leaf v, h => zic h
 | .named p, h => zaF.mpr (List.contains_iff_mem.mp h)
 | .arr n t, h => by
  unfold wfB at h
  rw [Bool.and_eq_true, decide_eq_true_eq] at h
  exact ⟨h.1, zjF t h.2⟩
 | .struct fs, h => by
  unfold wfB at h
  rw [Bool.and_eq_true, decide_eq_true_eq] at h
  exact ⟨h.1, zjE fs h.2⟩
theorem zjE {N : List (Str × Ty)} : ∀ fs : List (Str × Ty), zpT (N.map (·.1)) fs = true → Wf.WfL (zbJ N) fs
 | [], _ => trivial
 | (_, t) :: r, h => by
  unfold zpT at h
  rw [Bool.and_eq_true] at h
  exact ⟨zjF t h.1, zjE r h.2⟩
end
noncomputable def zki : Ty → Bool
 | .named _ => false
 | _ => true
theorem zi8 {T : Ty} (h : zki T = true) : zaV T := by cases T <;> first | trivial | cases h
noncomputable def okB (N : List (Str × Ty)) : Bool := N.all fun q => zki q.2 && wfB (N.map (·.1)) q.2
theorem zkg {N : List (Str × Ty)} (h : okB N = true) : ∀ p T, zbJ N p = some T → zaV T ∧ Wf (zbJ N) T := fun p T e => by
 have := List.all_eq_true.mp h _ (zck e)
 rw [Bool.and_eq_true] at this
 exact ⟨zi8 this.1, zjF T this.2⟩
noncomputable def zmN (N : List (Str × Ty)) (σ : Str → Option (Int × Int)) (c : Str → Nat) : Bool := N.all fun q => decide (σ q.1 = szT σ q.2) && decide (zbd c q.2 + 2 ≤ c q.1)
theorem zhW {N : List (Str × Ty)} {σ : Str → Option (Int × Int)} {c : Str → Nat} (h : zmN N σ c = true) : zk8 (zbJ N) σ c ∧ zg4 (zbJ N) c := by
 have key : ∀ p T, zbJ N p = some T → σ p = szT σ T ∧ zbd c T + 2 ≤ c p := fun p T e => by
  have := List.all_eq_true.mp h _ (zck e)
  rw [Bool.and_eq_true, decide_eq_true_eq, decide_eq_true_eq] at this
  exact this
 exact ⟨⟨fun p T e => (key p T e).1, fun p T e => by have := (key p T e).2; walk_at "o"⟩, ⟨fun p T e => (key p T e).2⟩⟩
noncomputable def zb1 {α : Type} (d : α) : List (Str × α) → Str → α
 | [], _ => d
 | (k, v) :: r, p => if k == p then v else zb1 d r p
theorem zb9 {N : List (Str × Ty)} {σ : Str → Option (Int × Int)} (hl : N.length ≤ 1000) : ∀ es, zaQ (zbJ N) σ es → (es.map (·.1)).Nodup → es.length ≤ 1000 := fun es hes nd => by
 have := zbn (m := N.map (·.1)) nd fun p hp => by
  refine xEA (List.mem_map.mp hp) fun q hq e => ?_
  obtain ⟨k, v⟩ := q
  refine zdx (hes k v hq) fun z _ _ h3 => ?_
  rwa [← e]; exact zaF.mp h3
 rw [List.length_map, List.length_map] at this
 walk_at "o"
noncomputable def chT : Nat → Ty
 | 0 => .struct [("x", zqt)]
 | k + 1 => .struct [("x", .named (nmP "C" k))]
noncomputable def zjo : List Ty := (List.range 70).map chT
noncomputable def chN : List (Str × Ty) := za9 "C" zjo
noncomputable def chS : List (Str × Option (Int × Int)) := ([("error", some (1, 1)), ("runtime.Error", some (1, 1)), ("sync.Mutex", some (1, 2)), ("sync.WaitGroup", some (1, 2))] : List (Str × Option (Int × Int))) ++ (List.range 70).map fun k => (nmP "C" k, if k < 59 then some (1, (k : Int) + 2) else none)
noncomputable def chC : List (Str × Nat) := ([("error", 10), ("runtime.Error", 10), ("sync.Mutex", 10), ("sync.WaitGroup", 10)] : List (Str × Nat)) ++ (List.range 70).map fun k => (nmP "C" k, 4 * k + 10)
noncomputable def zg1 : List Str := (["error", "m.C0", "m.C1", "m.C10", "m.C11", "m.C12", "m.C13", "m.C14", "m.C15", "m.C16", "m.C17", "m.C18", "m.C19", "m.C2", "m.C20", "m.C21", "m.C22", "m.C23", "m.C24", "m.C25", "m.C26", "m.C27", "m.C28", "m.C29", "m.C3", "m.C30", "m.C31", "m.C32", "m.C33", "m.C34", "m.C35", "m.C36", "m.C37", "m.C38", "m.C39", "m.C4", "m.C40", "m.C41", "m.C42", "m.C43", "m.C44", "m.C45", "m.C46", "m.C47", "m.C48", "m.C49", "m.C5", "m.C50", "m.C51", "m.C52", "m.C53", "m.C54", "m.C55", "m.C56", "m.C57", "m.C58", "m.C59", "m.C6", "m.C60", "m.C61", "m.C62", "m.C63", "m.C64", "m.C65", "m.C66", "m.C67", "m.C68", "m.C69", "m.C7", "m.C8", "m.C9", "runtime.Error", "sync.Mutex", "sync.WaitGroup"] : List String).map Str.ofString
theorem ziu : zc7 (chN.map (·.1)) zg1 := by intro prog P b tk; cases b <;> kernel_rfl
theorem zl7 : (chN.map (·.1)).Nodup := by decide +kernel
theorem zqD : okB chN = true := by decide +kernel
theorem znA : zmN chN (zb1 none chS) (zb1 0 chC) = true := by decide +kernel
theorem zoO : (chN.map (·.1)).length = 74 := by decide +kernel
theorem zoN : zg1.all (fun p => (chN.map (·.1)).contains p) = true := by decide +kernel
theorem znB : chN.all (fun p => decide (p.1.length ≤ 1000)) = true := by decide +kernel
noncomputable def rgN : List (Str × Ty) := zca ++ (nmP "C" 0, .struct [("x", .named (nmP "C" 69))]) :: (za9 "C" zjo).drop 5
theorem zm1 : rgN.map (·.1) = chN.map (·.1) := by decide +kernel
theorem zqh : okB rgN = true := by decide +kernel
theorem zl6 : za9 "C" zjo = zca ++ (nmP "C" 0, chT 0) :: (za9 "C" zjo).drop 5 := by kernel_rfl
noncomputable def rgM : List Str := (List.range 70).map (nmP "C")
noncomputable def zoh (N : List (Str × Ty)) (M : List Str) : Bool := M.all fun p => match zbJ N p with
 | some (.struct [(_, .named q)]) => M.contains q
 | _ => false
theorem zlw {N : List (Str × Ty)} {M : List Str} (h : zoh N M = true) : ∀ p ∈ M, ∃ f q, zbJ N p = some (.struct [(f, .named q)]) ∧ q ∈ M := fun p hp => by
 have := List.all_eq_true.mp h p hp
 split at this
 ·rename_i f q e
  exact (zk4 f q e (List.contains_iff_mem.mp this))
 ·cases this
theorem zmX : zoh rgN rgM = true := by decide +kernel
theorem zoj : rgM.all (fun p => (rgN.map (·.1)).contains p) = true := by decide +kernel
theorem zj5 : zbJ rgN "error" = some zqz := by kernel_rfl
theorem zoi : ("error" : Str) ∉ rgM := by decide +kernel
theorem zm0 : zg1[0]? = some ("error" : Str) := by decide +kernel
theorem zmZ : zg1[1]? = some (nmP "C" 0) := by decide +kernel
theorem zmY : zg1.length = 74 := by decide +kernel
theorem zrA : chN.all (fun q => decide (zb1 0 chC q.1 + 1 ≤ 900000)) = true := by decide +kernel
noncomputable def zjQ : List (Addr × Addr) := [(442, 438), (743, 741), (748, 746), (758, 756)]
theorem zh6 {n i : Nat} {x : AV} (h : ((List.range n).map fun i => AV.int (i : Nat))[i]? = some x) : i < n ∧ x = .int (i : Nat) := by
 rw [List.getElem?_map] at h
 cases e : (List.range n)[i]? with
 | none => rw [e] at h; cases h
 | some j =>
  rw [e] at h
  cases h
  obtain ⟨h1, h2⟩ := List.getElem?_eq_some_iff.mp e
  rw [List.length_range] at h1
  rw [List.getElem_range] at h2
  exact ⟨h1, by (rewrite [h2]; with_reducible rfl)⟩
theorem zfw {α : Type} (g : Nat → α) (i : Nat) : (List.range (i + 1)).map g = (List.range i).map g ++ [g i] := by rwa [List.range_succ, List.map_append]; rfl
theorem zgv {env : Env} {a b : Str} {p q : Pos} {vs : List Expr} {k k2 : Nat} {tp vp : Pos} (ha : env.kindOf a = some .cell) : swappedStores [.Tuple [.Name a p, .Name b q] k tp] (.Tuple vs k2 vp) env = pure none := zcv (by
 have h3 : zaD env p.line (.Name a p) = none := by simp [zaD, ha]
 show (List.filterMap (zaD env p.line) [.Name a p, .Name b q]).length ≠ 2
 intro z
 rw [List.filterMap_cons_none h3] at z
 have h4 := List.length_filterMap_le (zaD env p.line) [.Name b q]
 rw [List.length_singleton] at h4
 walk_at "o")
noncomputable def chQ : List AV := ([0, 58, 59, 69] : List Nat).map fun (k : Nat) => AV.tup [.int (k : Int), zaT (zb1 none chS (nmP "C" k))]
theorem zn9 {mark : Str} {Ts : List Ty} {k : Nat} {T : Ty} (h : Ts[k]? = some T) : (nmP mark k, T) ∈ za9 mark Ts :=
 List.mem_append_right _ (List.mem_map.mpr (iEA (T, k) (List.mem_zipIdx_iff_getElem?.mpr h) rfl))
theorem zjn {α : Type} (g : Nat → α) (n : Nat) : [g 0] ++ (List.range n).map (fun k => g (k + 1)) = (List.range (n + 1)).map g := by rwa [List.range_succ_eq_map]; simp [Function.comp_def]
theorem zem (o : Option (Int × Int)) : zd8 (zaT o) (zaT o) = true ∧ zau (zaT o) = true ∧ zaH (zaT o) ≤ 1 := by
 cases o with
 | none => exact (iAA rfl rfl (Nat.zero_le _))
 | some q => refine (iAA ?_ rfl (Nat.le_refl _)); show (q.1 == q.1 && (q.2 == q.2 && true)) = true; simp
theorem mC (k : Nat) : Str.ofString "m.C" ++ Str.ofString (toString (k : Int)) = nmP "C" k := by
 have : (Str.ofString "m.C") = (Str.ofString "m." ++ Str.ofString "C") := by decide +kernel
 rwa [this]; rfl
set_option maxHeartbeats 4000000 in
theorem zl5 {B : zan} {A : Around} {l : Led} {Ψ : XQ} {Φ : EQ} (hK : KF B.K) (hB : B.tabs = zjQ) (hr : A.depth + 40 < recursionLimit) (hh : A.handled = none) (hu : A.units + 200 < cLine) {fr : List Env} (hfr : A.frames = some fr) (F : FrL l fr) {f : zaa → Led} (hT : Up l 746 (.raw (tabObj #[])) f)
  (h : ∀ ps, Φ (.bool true) (f (.raw (tabObj ps)))) : Fn B A (.ref 749) [] l Φ Ψ := by
 refine zdH hK (by walk_at "d") fun L c0 e hf hc Fo => ?_
 show Ex _ _ _ _ (_ :: _) _ _
 have hh2 : (A.deeper e).handled = none := hh
 have hfr2 : (A.deeper e).frames = some (e :: fr) := by show A.frames.map (e :: ·) = _; rwa [hfr]; rfl
 walk_at "g"
 intro t0
 walk_at "g"
 refine za8 Fo (own := [".0", "k"]) (gs' := ["str"]) (cs := []) (cl' := []) (by decide +kernel) rfl (fun _ h => nomatch h) ?_ (by intro _; walk_at "r")
 walk_at "g"
 refine zah Fo (by walk_at "m") (zaO (n := "range") (kg hK 130) zbz (by decide)) ?_
 walk_at "g"
 refine ⟨zaA, zcL fun r0 tt u0 v0 => ?_⟩
 refine ⟨(List.range 69).map fun i => AV.int (i : Nat), _, fun i ys l' => ys = ((List.range i).map fun k => zaC (chT (k + 1))) ∧ l' = (t0, zaa.list [zaC (chT 0)]) :: (L, zaa.ns [("types", some (.ref t0)), ("k", none), ("shared", none), ("told", none), ("path", none)]) :: (c0, zaa.cell none) :: l, _, _, zdn (Le.skip Le.refl) (zdm (n := 69) hh2 List.mem_cons_self (by walk_at "o")), trivial, by simp, ⟨rfl, rfl⟩, fun _ _ _ _ _ => trivial, ?_, ?_⟩
 ·intro C env' i x ys m ks l' hx zq81 Fo' hm
  revert ys l'
  refine sQQ ?_
  refine xEE (zdk hm) fun a1 a2 yq296 => ?_
  subst yq296
  refine xA (zh6 hx) fun hi yq297 => ?_
  subst yq297
  have hnl : (Str.ofString (toString (i : Int))).length ≤ 10 := zch (by walk_at "o") (by walk_at "o")
  walk_at "g"
  refine zah Fo' (by walk_at "m") (zaO (n := "str") (kg hK 127) zbK (by decide)) ?_
  walk_at "g"
  refine ⟨zaA, zbh (zbf (by walk_at "o") (by walk_at "o")) ?_⟩
  walk_at "g"
  refine zaR (by have e : (Str.ofString "m.C").length = 3 := (by decide +kernel); walk_at "o") ?_
  rwa [mC]
  walk_at "g"
  exact ⟨_, _, rfl, Le.refl, by rwa [zfw]; rfl, rfl⟩
 intro ys l' zq82 D
 revert ys l'
 refine sQQ ?_
 refine zc0 mz1 (.head _) (by simp) fun D2 => ?_
 walk_at "s"
 have eT : [zaC (chT 0)] ++ List.map (fun k => zaC (chT (k + 1))) (List.range (List.map (fun i => AV.int ((i : Nat) : Int)) (List.range 69)).length) = zjo.map zaC := by
  rwa [List.length_map, List.length_range]
  have := congrArg (List.map zaC) (zjn chT 69)
  rw [List.map_append, List.map_map] at this
  exact this
 rwa [eT]
 refine zjh (l' := (D2, zaa.list (zjo.map zaC)) :: (L, zaa.ns [("types", some (.ref D2)), ("k", none), ("shared", none), ("told", none), ("path", none)]) :: (c0, zaa.cell none) :: l) (by walk_at "e") ?_
 refine zai ?_
 refine zaL ?_ (by walk_at "r") (zgv (Fo.cel ("world", c0) (.head _)).2)
 walk_at "s"
 refine zal Fo (by walk_at "m") (zad (kg hK 204)) ?_
 walk_at "s"
 refine ⟨zac (kg hK 205), zab (zeO (t := D2) (Ts := zjo) hK (by walk_at "d") hh2 (.head _) (by decide +kernel) (by decide +kernel) zl7 fun w wd nd d0 d1 d2 d3 d4 d5 d6 d7 lk lp lz rs hrs => ?_)⟩
 walk_at "s"
 intro sh
 walk_at "s"
 have hT0 := zhW znA
 have hok := zkg zqD
 refine zai ?_
 refine zd9 (fun _ _ x => x.elim) ?_ (by intro _; walk_at "r")
 walk_at "s"
 intro Dl
 refine ⟨chQ, _, fun i l' => ∃ es kv tv pv, zaQ (zbJ chN) (zb1 none chS) es ∧ l' = (Dl, zaa.list chQ) :: (sh, zaa.dict es) :: zfQ w wd nd d0 d1 d2 d3 d4 d5 d6 d7 lk lp lz rs ((D2, zaa.list (zjo.map zaC)) :: (L, zaa.ns [("types", some (.ref D2)), ("k", kv), ("shared", some (.ref sh)), ("told", tv), ("path", pv)]) :: (c0, zaa.cell (some (.ref w))) :: l), _, fun _ => True, zbx hh2 (.head _), trivial, (zms ([]) none none none (fun p v hm => (nomatch hm)) rfl), ?_, ?_, ?_⟩
 ·intro i l' zq83
  revert l'
  refine zhh fun es kv tv pv _ => ?_
  exact .head _
 ·intro i y ls l' hy zq84
  revert l'
  refine zhh fun es kv tv pv hes => ?_
  obtain ⟨k, hk, rfl⟩ : ∃ k : Nat, k < 70 ∧ y = AV.tup [.int (k : Int), zaT (zb1 none chS (nmP "C" k))] := by
   match i, hy with
   | 0, hy => exact (iEA 0 (by decide) ((Option.some.inj hy).symm))
   | 1, hy => exact (iEA 58 (by decide) ((Option.some.inj hy).symm))
   | 2, hy => exact (iEA 59 (by decide) ((Option.some.inj hy).symm))
   | 3, hy => exact (iEA 69 (by decide) ((Option.some.inj hy).symm))
   | n + 4, hy => cases hy
  have hnl : (Str.ofString (toString (k : Int))).length ≤ 10 := zch (by walk_at "o") (by walk_at "o")
  have hin : (zbJ chN (nmP "C" k)).isSome = true := zaF.mpr (List.mem_map_of_mem (f := (·.1)) (zn9 (Ts := zjo) (T := chT k) (by unfold zjo; rwa [List.getElem?_map, List.getElem?_range hk]; rfl)))
  walk_at "g"
  refine zah Fo (by walk_at "m") (zaO (n := "str") (kg hK 127) zbK (by decide)) ?_
  walk_at "g"
  refine ⟨zaA, zbh (zbf (by walk_at "o") (by walk_at "o")) ?_⟩
  walk_at "g"
  refine zaR (by have e : (Str.ofString "m.C").length = 3 := (by decide +kernel); walk_at "o") ?_
  rwa [mC]
  walk_at "g"
  refine zal Fo (by walk_at "m") (zad (kg hK 206)) ?_
  walk_at "g"
  intro Z1
  walk_at "g"
  have hWm : zgj w (zbJ chN) (ls ++ (Dl, zaa.list chQ) :: (sh, zaa.dict es) :: zfQ w wd nd d0 d1 d2 d3 d4 d5 d6 d7 lk lp lz rs ((D2, zaa.list (zjo.map zaC)) :: (L, zaa.ns [("types", some (.ref D2)), ("k", some (.int k)), ("shared", some (.ref sh)), ("told", some (zaT (zb1 none chS (nmP "C" k)))), ("path", some (.str (nmP "C" k)))]) :: (c0, zaa.cell (some (.ref w))) :: l)) :=
   zbM (fun p hp => List.mem_append_right _ (.tail _ (.tail _ hp))) hrs (fun q hq => hq) hok
  refine ⟨zac (kg hK 207), zab (zer hK (by walk_at "d") hh2 (by walk_at "d") hfr2 (FrL.cons Fo.kind hf (by walk_at "m") (F.le fun p hp => by walk_at "m")) hT0.1 hWm hin (fun p v hm => (nomatch hm)) (zb9 (by decide +kernel)) fun es1 h1 h2 h3 => ?_)⟩
  walk_at "g"
  have hos := zem (zb1 none chS (nmP "C" k))
  refine zcy hos.2.1 hos.2.1 (by show A.units + 3 + _ + _ < _; walk_at "o") ?_
  rwa [hos.1]
  walk_at "g"
  refine zal Fo (by walk_at "m") (zad (kg hK 206)) ?_
  walk_at "g"
  refine ⟨zac (kg hK 207), zab (zbH (Le.pick (.tail (.app pz1)) Le.refl) (zer hK (by walk_at "d") hh2 (by walk_at "d") hfr2 (FrL.cons Fo.kind hf (by walk_at "m") (F.le fun p hp => by walk_at "m")) hT0.1 (zbM (fun p hp => .tail _ (List.mem_append_right _ (.tail _ hp))) hrs (fun q hq => hq) hok) hin hes (zb9 (by decide +kernel)) fun es2 h4 h5 h6 => ?_))⟩
  walk_at "g"
  refine zcy hos.2.1 hos.2.1 (by show A.units + 3 + _ + _ < _; walk_at "o") ?_
  rwa [hos.1]
  walk_at "g"
  refine ⟨(Dl, zaa.list chQ) :: (sh, zaa.dict es2) :: zfQ w wd nd d0 d1 d2 d3 d4 d5 d6 d7 lk lp lz rs ((D2, zaa.list (zjo.map zaC)) :: (L, zaa.ns [("types", some (.ref D2)), ("k", some (.int k)), ("shared", some (.ref sh)), ("told", some (zaT (zb1 none chS (nmP "C" k)))), ("path", some (.str (nmP "C" k)))]) :: (c0, zaa.cell (some (.ref w))) :: l), ?_, es2, _, _, _, h4, rfl⟩
  exact Le.turn (Le.pick (.tail (.tail (.app .head))) (Le.turn (lz0 (Le.skip Le.refl))))
 ·intro l' zq85
  revert l'
  refine zhh fun es kv tv pv hes => ?_
  walk_at "s"
  refine zai ?_
  walk_at "s"
  refine zal Fo (by walk_at "m") (zad (kg hK 208)) ?_
  refine zby ?_ (by walk_at "r")
  refine zcF Fo (c := 748) (P := 746) (ps0 := #[]) (cl' := [("world", c0)]) rfl (hc.trans (kg hK 210)) (by rwa [hB]; exact .tail _ mz1) (.tail (.tail (.tail (.tail (.tail (.tail (.tail (.tail (.app (.tail (.tail (.tail hT)))))))))))) trivial rfl rfl (fun p hp => hp) (by simp) fun fn c' oc ctv pm qual ho => ?_
  walk_at "s"
  have hn74 := zoO
  have hlong : ∀ p, (zbJ chN p).isSome = true → p.length ≤ 1000 := fun p hp => by
   refine xEA (List.mem_map.mp (zaF.mp hp)) fun q hq e => ?_
   have := of_decide_eq_true (List.all_eq_true.mp znB q hq)
   rwa [← e]; exact this
  have hout : ∀ p ∈ zg1, (zbJ chN p).isSome = true := fun p hp => zaF.mpr (List.contains_iff_mem.mp (List.all_eq_true.mp zoN p hp))
  refine ⟨zac (kg hK 209), zab (zew (J := fun _ op done => op = [] ∧ ∀ q ∈ done, q ∈ chN.map (·.1)) (C := False) hK (by walk_at "d") hh2 (by walk_at "d") hfr2 (FrL.cons Fo.kind hf (by walk_at "m") ((FrL.up F hT fun m e => by cases e).le fun p hp => by walk_at "m")) (by intro _; walk_at "r") (.head _) mz1 ho (by decide +kernel) rfl (by walk_at "m") (zbM (fun p hp => .tail _ (.tail _ (.tail _ (.tail _ hp)))) hrs (fun q hq => hq) hok) (zdA (fun p hp => .tail _ (.tail _ (.tail _ (.tail _ hp)))) hrs) ziu (by show 2 ≤ (chN.map (·.1)).length; rwa [hn74]; decide) (by show (chN.map (·.1)).length ≤ 1000; rwa [hn74]; decide) (by decide +kernel) hlong hout ⟨rfl, fun q hq => (nomatch hq)⟩ (fun i p op done hp hJ => ?_) (fun op done hJ => ?_) (fun x => x.elim))⟩
  ·refine xA hJ fun yq303 hd => ?_
   clear hJ
   subst yq303
   obtain ⟨I, n0, a1, a2, a3, a4⟩ := ziz hT0.2 hok (fun p hp => zaF.mp hp) (fun p hp => by
    refine xEA (List.mem_map.mp (zaF.mp hp)) fun q hq e => ?_
    have := of_decide_eq_true (List.all_eq_true.mp zrA q hq)
    rwa [← e]; exact this) (hout p (List.mem_of_getElem? hp)) hd
   exact (zd0 I n0 a1 a2 a3 a4)
  walk_at "g"
  refine zaK ?_
  walk_at "s"
  rw [show za9 "C" zjo = _ from zl6] at hrs
  refine zbS (List.map_eq_append_iff.mp hrs) fun ra rb0 yq304 hra hrb0 => ?_
  subst yq304
  refine zbS (List.map_eq_cons_iff.mp hrb0) fun r4 rb yq305 hr4 hrb => ?_
  subst yq305
  have hp4 : r4.p = nmP "C" 0 := congrArg Prod.fst hr4
  have eC : ∀ (T : AV) (X : Led), zaN ra ++ ((r4.x, zaa.inst 614 r4.d) :: (r4.d, zaa.dict (zdh (.str r4.p) r4.k T r4.m)) :: (zaN rb ++ X)) = (zaN ra ++ [(r4.x, zaa.inst 614 r4.d), (r4.d, zaa.dict (zdh (.str r4.p) r4.k T r4.m))] ++ zaN rb) ++ X := fun T X => by simp
  have eR : ∀ (r : zjx), zaN (ra ++ r :: rb) = zaN ra ++ [(r.x, zaa.inst 614 r.d), (r.d, zaa.dict (zdh (.str r.p) r.k (zaC r.T) r.m))] ++ zaN rb := fun r => by
   rwa [zeM]; show _ ++ ([_, _] ++ zaN rb) = _; rwa [List.append_assoc]
  generalize hps : (#[] ++ #[rawInt _, rawInt _, Value.ref c'] : Array Value) = ps1
  refine zjh (l' := (w, zaa.inst 664 wd) :: (wd, zaa.dict (zaJ nd d0 d1 d2 d3 d4 d5 d6 d7 (.ref lk) (.ref lp) (.ref lz))) :: (nd, zaa.dict (zba (ra ++ r4 :: rb))) :: (lk, zaa.list []) :: (lp, zaa.list []) :: (lz, zaa.list []) :: (zaN ra ++ ((r4.x, zaa.inst 614 r4.d) :: (r4.d, zaa.dict (zdh (.str r4.p) r4.k (zaC r4.T) r4.m)) :: (zaN rb ++ ((L, zaa.ns [("types", some (.ref D2)), ("k", kv), ("shared", some (.ref sh)), ("told", tv), ("path", pv)]) :: (c0, zaa.cell (some (.ref w))) :: f (.raw (tabObj ps1))))))) ?_ ?_
  ·rwa [eC, ← eR]
   exact Le.skip (Le.skip (Le.skip (Le.skip (lz0 (lz0 (lz0 (lz0 (lz0 (lz0 (Le.app (Le.skip Le.refl)))))))))))
  have pcw : zaj B.K 664 = true := (kg hK 133)
  have finn : findIn B.K (.ref 664) "named" = some none := (kg hK 136)
  have pcn : zaj B.K 614 = true := (kg hK 134)
  have ta : ∀ x ∈ (["path", "package", "underlying", "methods"] : List Str), takerIn B.K 614 x = some none := (kg hK 193)
  refine zai ?_
  walk_at "s"
  refine zaq (by walk_at "m") (by walk_at "m") (by walk_at "m") ?_ pcw finn
  walk_at "s"
  refine zek (k := "m.C0") (x := .ref r4.x) (by walk_at "m") ?_ ?_ (by intro _ _; walk_at "r")
  ·have e0 : (Str.ofString "m.C0") = nmP "C" 0 := by decide +kernel
   rwa [e0, ← hp4]
   exact List.mem_map_of_mem (f := fun r : zjx => (r.p, AV.ref r.x)) (List.mem_append_right _ (.head _))
  refine zam (C := 614) (d := r4.d) (by walk_at "m") (.tail (.tail (.tail (.tail (.tail (.tail (.app (.tail .head)))))))) pcn (ta _ (by walk_at "m")) (fun rk nd2 rr => zbe nz2 rk nd2 rr) (by show 4 ≤ 1000; walk_at "o") ?_
  walk_at "s"
  rwa [show Str.ofString "m.C69" = nmP "C" 69 from by decide +kernel]
  have hrg : (ra ++ { r4 with T := .struct [("x", .named (nmP "C" 69))] } :: rb).map (fun r => (r.p, r.T)) = rgN := by
   rwa [List.map_append, List.map_cons, hra, hrb]
   show zca ++ (r4.p, _) :: _ = zca ++ _ :: _
   rwa [hp4]
  have hnd : zba (ra ++ r4 :: rb) = zba (ra ++ { r4 with T := .struct [("x", .named (nmP "C" 69))] } :: rb) := by delta zba; rwa [List.map_append, List.map_append]; rfl
  refine zjh (l' := zfQ w wd nd d0 d1 d2 d3 d4 d5 d6 d7 lk lp lz (ra ++ { r4 with T := .struct [("x", .named (nmP "C" 69))] } :: rb) ((L, zaa.ns [("types", some (.ref D2)), ("k", kv), ("shared", some (.ref sh)), ("told", tv), ("path", pv)]) :: (c0, zaa.cell (some (.ref w))) :: f (.raw (tabObj ps1)))) ?_ ?_
  ·show Le (_ :: _ :: (nd, zaa.dict (zba (ra ++ _ :: rb))) :: _ :: _ :: _ :: (zaN (ra ++ _ :: rb) ++ _)) _
   rwa [eR, ← eC, ← hnd]
   exact Le.refl
  have hokr := zkg zqh
  have hpsT : TriplesOk ps1.toList ∧ codeAmong { line := 701, col := 21, endLine := 701, endCol := 57 } ps1.toList = none := by rwa [← hps]; exact ⟨trivial, rfl⟩
  walk_at "s"
  refine zai ?_
  walk_at "s"
  refine zal Fo (by walk_at "m") (zad (kg hK 208)) ?_
  refine zby ?_ (by walk_at "r")
  refine zcF Fo (c := 748) (P := 746) (ps0 := ps1) (cl' := [("world", c0)]) rfl (hc.trans (kg hK 210)) (by rwa [hB]; exact .tail _ mz1) (.tail (.tail (.tail (.tail (.tail (.tail (.app (.tail (.tail (zbB hT _)))))))))) hpsT.1 hpsT.2 rfl (fun p hp => hp) (by simp) fun fn2 c2 oc2 ctv2 pm2 qual2 ho2 => ?_
  walk_at "s"
  have hkr : rgN.map (·.1) = chN.map (·.1) := zm1
  have hlr : ∀ p, (zbJ rgN p).isSome = true → p.length ≤ 1000 := fun p hp => hlong p (zaF.mpr (by rwa [← hkr]; exact zaF.mp hp))
  have houtr : ∀ p ∈ zg1, (zbJ rgN p).isSome = true := fun p hp => zaF.mpr (by rwa [hkr]; exact zaF.mp (hout p hp))
  refine ⟨zac (kg hK 209), zab (zew (env := zbJ rgN) (names := rgN.map (·.1)) (out := zg1) (J := fun i op done => (i = 0 ∧ op = [] ∧ done = []) ∨ (i = 1 ∧ op = [] ∧ done = [("error" : Str)])) (C := True) hK (by walk_at "d") hh2 (by walk_at "d") hfr2 (FrL.cons Fo.kind hf (by walk_at "m") ((FrL.up F hT fun m e => by cases e).le fun p hp => by walk_at "m")) (by intro _; walk_at "r") (.head _) mz1 ho2 (by decide +kernel) rfl (by walk_at "m") (zbM (fun p hp => .tail _ (.tail _ hp)) hrg (fun q hq => hq) hokr) (zdA (fun p hp => .tail _ (.tail _ hp)) hrg) (by rwa [hkr]; exact ziu) (by rwa [hkr, hn74]; decide) (by rwa [hkr, hn74]; decide) (by decide +kernel) hlr houtr (.inl (iAA rfl rfl rfl)) (fun i p op done hp hJ => ?_) (fun op done hJ => ?_) (fun _ => ?_))⟩
  ·rcases hJ with ⟨rfl, rfl, rfl⟩ | ⟨rfl, rfl, rfl⟩
   ·rw [zm0] at hp
    cases hp
    refine zhT (zkt (names := rgN.map (·.1)) zj5 (zic rfl) (zaF.mp (by rwa [zj5]; rfl))) fun I n0 a1 a2 a3 a4 => ?_
    exact (zd0 I n0 a1 a2 (fun n op' done' hI => .inr ⟨rfl, a3 n op' done' hI⟩) (fun _ _ _ _ _ _ _ _ _ => trivial))
   ·rw [zmZ] at hp
    cases hp
    have hmm : ∀ p ∈ rgM, p ∈ rgN.map (·.1) := fun p hp => List.contains_iff_mem.mp (List.all_eq_true.mp zoj p hp)
    obtain ⟨I, n0, a1, a2, a3⟩ := zj4 (env := zbJ rgN) (names := rgN.map (·.1)) hmm (zlw zmX) (by decide +kernel) (p := nmP "C" 0) (done := [("error" : Str)]) (List.mem_map_of_mem (f := nmP "C") (List.mem_range.mpr (by decide))) (fun q hq => by
     rwa [List.mem_singleton.mp hq]; exact ⟨zaF.mp (by rwa [zj5]; rfl), zoi⟩)
    exact (zd0 I n0 a1 a2 (fun n op' done' hI => (a3 n op' done' hI).elim) (fun _ _ _ _ _ _ _ _ _ => trivial))
  ·rw [zmY] at hJ
   rcases hJ with ⟨q, _⟩ | ⟨q, _⟩ <;> cases q
  ·walk_at "g"
   refine zi7 ?_
   walk_at "g"
   exact ⟨_, Le.skip (Le.skip (Le.skip (Le.skip (Le.skip (Le.skip (Le.skip (Le.skip (Le.drop (Le.skip (Le.skip Le.refl)))))))))), h _⟩
noncomputable def duT : Nat → Ty
 | 0 => .struct [("x", .leaf (.tup [.str "bool"])), ("y", .leaf (.tup [.str "bool"]))]
 | k + 1 => .struct [("x", .named (nmP "D" k)), ("y", .named (nmP "D" k))]
noncomputable def znU : List Ty := (List.range 21).map duT ++ [.arr (2 ^ 20) (.leaf (.tup [.str "bool"])), .arr 2 (.named (nmP "D" 19))]
noncomputable def duN : List (Str × Ty) := za9 "D" znU
noncomputable def duS : List (Str × Option (Int × Int)) := ([("error", some (1, 1)), ("runtime.Error", some (1, 1)), ("sync.Mutex", some (1, 2)), ("sync.WaitGroup", some (1, 2))] : List (Str × Option (Int × Int))) ++ ((List.range 21).map fun k => (nmP "D" k, if k < 20 then some (2 ^ (k + 1), (k : Int) + 2) else none)) ++ [(nmP "D" 21, some (2 ^ 20, 2)), (nmP "D" 22, none)]
noncomputable def duC : List (Str × Nat) := ([("error", 10), ("runtime.Error", 10), ("sync.Mutex", 10), ("sync.WaitGroup", 10)] : List (Str × Nat)) ++ ((List.range 21).map fun k => (nmP "D" k, 12 * 2 ^ k - 4)) ++ [(nmP "D" 21, 10), (nmP "D" 22, 12 * 2 ^ 19 + 10)]
theorem zlZ : (duN.map (·.1)).Nodup := by decide +kernel
theorem zqA : okB duN = true := by decide +kernel
theorem znx : zmN duN (zb1 none duS) (zb1 0 duC) = true := by decide +kernel
theorem mD (k : Nat) : Str.ofString "m.D" ++ Str.ofString (toString (k : Int)) = nmP "D" k := by
 have : (Str.ofString "m.D") = (Str.ofString "m." ++ Str.ofString "D") := by decide +kernel
 rwa [this]; rfl
noncomputable def duQ : List Nat := [19, 20, 21, 22]
theorem zoI {i : Nat} {x : AV} (h : (duQ.map fun (k : Nat) => AV.int (k : Int))[i]? = some x) : ∃ k : Nat, duQ[i]? = some k ∧ k < 23 ∧ x = .int k := by
 match i, h with
 | 0, h => exact (ze8 19 rfl (by decide) ((Option.some.inj h).symm))
 | 1, h => exact (ze8 20 rfl (by decide) ((Option.some.inj h).symm))
 | 2, h => exact (ze8 21 rfl (by decide) ((Option.some.inj h).symm))
 | 3, h => exact (ze8 22 rfl (by decide) ((Option.some.inj h).symm))
 | n + 4, h => cases h
theorem zqB : ∀ k : Fin 23, (zbJ duN (nmP "D" k)).isSome = true := by decide +kernel
set_option maxHeartbeats 4000000 in
theorem zjj {B : zan} {A : Around} {l : Led} {Ψ : XQ} {Φ : EQ} (hK : KF B.K) (hr : A.depth + 40 < recursionLimit) (hh : A.handled = none) (hu : A.units + 200 < cLine) {fr : List Env} (hfr : A.frames = some fr) (F : FrL l fr)
  (h : Φ (.bool true) l) : Fn B A (.ref 754) [] l Φ Ψ := by
 refine zcX hK (by walk_at "d") fun L c0 e hf hc Fo => ?_
 show Ex _ _ _ _ (_ :: _) _ _
 have hh2 : (A.deeper e).handled = none := hh
 have hfr2 : (A.deeper e).frames = some (e :: fr) := by show A.frames.map (e :: ·) = _; rwa [hfr]; rfl
 walk_at "g"
 intro t0
 walk_at "s"
 refine zai ?_
 refine zd9 (fun _ _ x => x.elim) ?_ (by intro _; walk_at "r")
 walk_at "s"
 refine zah Fo (by walk_at "m") (zaO (n := "range") (kg hK 130) zbz (by decide)) ?_
 walk_at "s"
 refine ⟨zaA, zcL fun r0 tt u0 v0 => ?_⟩
 refine ⟨(List.range 20).map fun i => AV.int (i : Nat), _, fun i l' => ∃ kv tv, l' = (t0, zaa.list ((List.range (i + 1)).map fun k => zaC (duT k))) :: (L, zaa.ns [("types", some (.ref t0)), ("k", kv), ("there", tv), ("told", none)]) :: (c0, zaa.cell none) :: l, _, fun _ => True, zdn (Le.skip Le.refl) (zdm (n := 20) hh2 List.mem_cons_self (by walk_at "o")), trivial, (iEE none none rfl), fun _ _ _ => trivial, ?_, ?_⟩
 ·intro i x ls l' hx zq86
  revert l'
  refine zof fun kv tv => ?_
  refine xA (zh6 hx) fun hi yq307 => ?_
  subst yq307
  have hnl : (Str.ofString (toString (i : Int))).length ≤ 10 := zch (by walk_at "o") (by walk_at "o")
  walk_at "g"
  refine zah Fo (by walk_at "m") (zaO (n := "str") (kg hK 127) zbK (by decide)) ?_
  walk_at "g"
  refine ⟨zaA, zbh (zbf (by walk_at "o") (by walk_at "o")) ?_⟩
  walk_at "g"
  refine zaR (by have e : (Str.ofString "m.D").length = 3 := (by decide +kernel); walk_at "o") ?_
  rwa [mD]
  walk_at "g"
  refine zbb (by walk_at "m") ?_
  walk_at "g"
  refine ⟨zap, za3 (.app .head) (by simp; walk_at "o") ?_⟩
  walk_at "g"
  exact ⟨_, Le.refl, some (.int i), some (.tup [.str "named", .str (nmP "D" i)]), by rwa [zfw _ (i + 1)]; rfl⟩
 intro l' zq87
 revert l'
 refine zof fun kv tv => ?_
 rwa [List.length_map, List.length_range]
 refine zai ?_
 walk_at "s"
 refine zdZ (by decide) (by decide +kernel) ?_
 walk_at "s"
 intro t1
 refine zc0 mz1 (.head _) (by simp) fun D2 => ?_
 walk_at "s"
 have eT : List.map (fun k => zaC (duT k)) (List.range (20 + 1)) ++ [.tup [.str "array", .int (2 ^ (20 : Int).toNat), .tup [.str "bool"]], .tup [.str "array", .int 2, .tup [.str "named", .str "m.D19"]]] = znU.map zaC := by
  unfold znU
  rwa [List.map_append, List.map_map]
  rfl
 rwa [eT]
 refine zjh (l' := (D2, zaa.list (znU.map zaC)) :: (L, zaa.ns [("types", some (.ref D2)), ("k", kv), ("there", tv), ("told", none)]) :: (c0, zaa.cell none) :: l) (by walk_at "e") ?_
 refine zai ?_
 walk_at "s"
 refine zal Fo (by walk_at "m") (zad (kg hK 204)) ?_
 walk_at "s"
 refine ⟨zac (kg hK 205), zab (zeO (t := D2) (Ts := znU) hK (by walk_at "d") hh2 (.head _) (by decide +kernel) (by decide +kernel) zlZ fun w wd nd d0 d1 d2 d3 d4 d5 d6 d7 lk lp lz rs hrs => ?_)⟩
 walk_at "s"
 refine zai ?_
 have hT0 := zhW znx
 have hok := zkg zqA
 refine zc9 Fo (by walk_at "m") (by decide) (by decide +kernel) (own := [".0", "k"]) (gs' := ["_law_told", "str"]) (cs := ["world"]) (cl' := [("world", c0)]) (by decide +kernel) rfl (fun p hp => hp) ?_ (by intro _; walk_at "r")
 walk_at "g"
 intro Dq
 refine ⟨duQ.map fun (k : Nat) => AV.int (k : Int), _, fun i ys l' => ys = ((duQ.take i).map fun k => zaT (zb1 none duS (nmP "D" k))) ∧ l' = (Dq, zaa.list (duQ.map fun (k : Nat) => AV.int (k : Int))) :: zfQ w wd nd d0 d1 d2 d3 d4 d5 d6 d7 lk lp lz rs ((D2, zaa.list (znU.map zaC)) :: (L, zaa.ns [("types", some (.ref D2)), ("k", kv), ("there", tv), ("told", none)]) :: (c0, zaa.cell (some (.ref w))) :: l), _, fun _ => True, zbx hh2 (.head _), trivial, by decide, ⟨rfl, rfl⟩, ?_, ?_, ?_⟩
 ·intro i ys l' k zq88
  revert ys l'
  refine sQQ ?_
  exact List.mem_append_right _ (.head _)
 ·intro C env' i x ys m ks l' hx zq89 Fo' hm
  revert ys l'
  refine sQQ ?_
  refine xEE (zdk hm) fun a1 a2 yq313 => ?_
  subst yq313
  refine zdx (zoI hx) fun k hk hk23 yq314 => ?_
  subst yq314
  have hnl : (Str.ofString (toString (k : Int))).length ≤ 10 := zch (by walk_at "o") (by walk_at "o")
  walk_at "g"
  refine zal Fo' (by walk_at "m") (zad (kg hK 206)) ?_
  walk_at "g"
  refine zah Fo' (by walk_at "m") (zaO (n := "str") (kg hK 127) zbK (by decide)) ?_
  walk_at "g"
  refine ⟨zaA, zbh (zbf (by walk_at "o") (by walk_at "o")) ?_⟩
  walk_at "g"
  refine zaR (by have e : (Str.ofString "m.D").length = 3 := (by decide +kernel); walk_at "o") ?_
  rwa [mD]
  walk_at "g"
  intro Z1
  walk_at "g"
  refine ⟨zac (kg hK 207), zab (zer hK (by walk_at "d") hh2 (by walk_at "d") hfr2 (FrL.cons Fo.kind hf (by walk_at "m") (F.le fun p hp => by walk_at "m")) hT0.1 (zbM (fun p hp => .tail _ (List.mem_append_right _ (.tail _ hp))) hrs (fun q hq => hq) hok) (zqB ⟨k, hk23⟩) (fun p v hm => (nomatch hm)) (zb9 (by decide +kernel)) fun es1 h1 h2 h3 => ?_)⟩
  exact ⟨_, _, rfl, Le.skip Le.refl, by rwa [zaM hk, List.map_append]; rfl, rfl⟩
 ·intro ys l' zq90 C D m
  revert ys l'
  refine sQQ ?_
  refine zfP Fo (by walk_at "m") (.tail (.tail (.tail (.tail (.tail (.tail (.tail (.tail (.tail (.app (.tail .head))))))))))) (by walk_at "u") ?_
  refine ⟨_, _, rfl, zgc ?_⟩
  walk_at "g"
  refine zdZ (by decide) (by decide +kernel) ?_
  walk_at "g"
  refine zdZ (by decide) (by decide +kernel) ?_
  walk_at "g"
  intro D3
  generalize hxs : List.map (fun k => zaT (zb1 none duS (nmP (Str.ofString "D") k))) (List.take (List.map (fun (k : Nat) => AV.int (k : Int)) duQ).length duQ) = xs
  generalize hys : [AV.tup [AV.int (2 ^ Int.toNat 20), AV.int 21], AV.none, AV.tup [AV.int (2 ^ Int.toNat 20), AV.int 2], AV.none] = ys
  have q : zaw xs = true ∧ zaw ys = true ∧ zaG xs = 1 ∧ zaG ys = 1 ∧ zej xs ys = true := by rwa [← hxs, ← hys]; exact (zje (by kernel_rfl) (by kernel_rfl) (by kernel_rfl) (by kernel_rfl) (by kernel_rfl))
  refine zi5 mz1 (.head _) q.1 q.2.1 (by rwa [q.2.2.1, q.2.2.2.1]; show A.units + 3 + 1 + 1 + 1 < _; walk_at "o") ?_
  rwa [q.2.2.2.2]
  walk_at "g"
  exact ⟨_, Le.skip (Le.skip (Le.skip (Le.skip (Le.skip (Le.skip (Le.skip (Le.skip (Le.skip (Le.drop (Le.skip (Le.skip (Le.skip Le.refl)))))))))))), h⟩
noncomputable def zop : AV → Prop
 | .none => True
 | .bool _ => True
 | .int _ => True
 | .bytes _ => True
 | _ => False
inductive Cnt : Nat → AV → Int × Int → Prop
 | leaf {n : Nat} {V : AV} : zop V → Cnt n V (1, 1)
 | node {n : Nat} {s : Str} {xs : List AV} {qs : List (Int × Int)} {q : Int × Int} : zaU (qs.map fun q => (some q, (1 : Int))) = some q → xs.length = qs.length → xs.length ≤ 1000 → (∀ (i : Nat) (x : AV) (p : Int × Int), xs[i]? = some x → qs[i]? = some p → Cnt n x p) → Cnt (n + 1) (.tup [.str s, .tup xs]) q
theorem Cnt.bnd : ∀ {n : Nat} {V : AV} {q : Int × Int}, Cnt n V q → 0 ≤ q.1 ∧ q.1 ≤ 2 ^ 20 ∧ 0 ≤ q.2 ∧ q.2 ≤ 100 := by
 intro n V q h
 induction h with
 | leaf _ => decide
 | @node n s xs qs q hm hl _ hc ih =>
  have := zfA hm (fun r hr p e => by
   refine xEA (List.mem_map.mp hr) fun z hz yq317 => ?_
   subst yq317
   cases e
   refine xE (List.getElem?_of_mem hz) fun i hi => ?_
   have hi2 : i < xs.length := by rwa [hl]; exact (List.getElem?_eq_some_iff.mp hi).1
   exact (ih i _ _ (List.getElem?_eq_getElem hi2) hi).2.2.1)
  walk_at "o"
theorem zjl {B : zan} (hK : KF B.K) : ∀ (n : Nat) {A : Around} {l : Led} {Ψ : XQ} {Φ : EQ} {V : AV} {q : Int × Int}, A.depth + n + 10 < recursionLimit → A.handled = none → A.units + 10 * n + 60 < cLine → Cnt n V q → Φ (zaT (some q)) l → Fn B A (.ref 739) [V] l Φ Ψ := by
 intro n
 induction n with
 | zero =>
  intro A l Ψ Φ V q hr hh hu hc h
  cases hc with
  | leaf hp =>
   refine zde hK (by walk_at "d") fun L e hf hcd Fo => ?_
   show Ex _ _ _ _ (_ :: _) _ _
   walk_at "g"
   refine zcq ?_ (by intro _; walk_at "r")
   walk_at "g"
   refine zah Fo (by walk_at "m") (za6 (n := "isinstance") (kg hK 213) (by decide +kernel) (by decide)) ?_
   walk_at "g"
   refine zah Fo (by walk_at "m") (zaO (n := "tuple") (kg hK 131) zaX (by decide)) ?_
   walk_at "g"
   cases V <;> first | exact hp.elim | skip
   all_goals
    refine ⟨zap, zbZ rfl ?_⟩
    walk_at "g"
    exact ⟨_, Le.skip Le.refl, h⟩
 | succ n ih =>
  intro A l Ψ Φ V q hr hh hu hc h
  refine zde hK (by walk_at "d") fun L e hf hcd Fo => ?_
  show Ex _ _ _ _ (_ :: _) _ _
  have hh2 : (A.deeper e).handled = none := hh
  cases hc with
  | leaf hp =>
   walk_at "g"
   refine zcq ?_ (by intro _; walk_at "r")
   walk_at "g"
   refine zah Fo (by walk_at "m") (za6 (n := "isinstance") (kg hK 213) (by decide +kernel) (by decide)) ?_
   walk_at "g"
   refine zah Fo (by walk_at "m") (zaO (n := "tuple") (kg hK 131) zaX (by decide)) ?_
   walk_at "g"
   cases V <;> first | exact hp.elim | skip
   all_goals
    refine ⟨zap, zbZ rfl ?_⟩
    walk_at "g"
    exact ⟨_, Le.skip Le.refl, h⟩
  | @node _ s xs qs _ hm hl hx hc =>
   walk_at "g"
   refine zcq ?_ (by intro _; walk_at "r")
   walk_at "g"
   refine zah Fo (by walk_at "m") (za6 (n := "isinstance") (kg hK 213) (by decide +kernel) (by decide)) ?_
   walk_at "g"
   refine zah Fo (by walk_at "m") (zaO (n := "tuple") (kg hK 131) zaX (by decide)) ?_
   walk_at "g"
   refine ⟨zap, zbZ rfl ?_⟩
   walk_at "g"
   refine zal Fo (by walk_at "m") (zad (kg hK 122)) ?_
   walk_at "g"
   refine za8 Fo (own := [".0", "one"]) (gs' := ["_law_counted"]) (cs := []) (cl' := []) (by decide +kernel) rfl (fun _ h => nomatch h) ?_ (by intro _; walk_at "r")
   walk_at "g"
   refine ⟨xs, _, fun i ys l' => ys = ((qs.take i).map fun q => zeb (some q, (1 : Int))) ∧ l' = (L, zaa.ns [("V", some (.tup [.str s, .tup xs]))]) :: l, _, _, zdl hh2, trivial, by walk_at "o", ⟨rfl, rfl⟩, fun _ _ _ _ _ => trivial, ?_, ?_⟩
   ·intro C env' i x ys m ks l' hx' zq91 Fo' hm'
    revert ys l'
    refine sQQ ?_
    refine xEE (zdk hm') fun a b yq320 => ?_
    subst yq320
    have hi : i < qs.length := by rwa [← hl]; exact (List.getElem?_eq_some_iff.mp hx').1
    have hq := List.getElem?_eq_getElem hi
    walk_at "g"
    refine zal Fo' (by walk_at "m") (zad (kg hK 211)) ?_
    walk_at "g"
    refine ⟨zac (kg hK 212), zab (ih (by show A.depth + 1 + n + 10 < _; walk_at "o") hh2 (by show A.units + 3 + 10 * n + 60 < _; walk_at "o") (hc i x _ hx' hq) ?_)⟩
    walk_at "g"
    exact ⟨_, _, rfl, Le.refl, by rwa [zaM hq, List.map_append]; rfl, rfl⟩
   ·intro ys l' zq92 D
    revert ys l'
    refine sQQ ?_
    rwa [hl, List.take_length]
    have e1 : (qs.map fun q => zeb (some q, (1 : Int))) = (qs.map fun q => (some q, (1 : Int))).map zeb := by rwa [List.map_map]; rfl
    rwa [e1]
    walk_at "g"
    refine ⟨zac (kg hK 121), zab (zhu (rs := qs.map fun q => (some q, (1 : Int))) hK (by show A.depth + 1 + 1 < _; walk_at "o") hh2 (by show A.units + 3 + 20 < _; walk_at "o") (.head _) (by rwa [List.length_map]; walk_at "o") (fun r hr => ?_) ?_)⟩
    ·refine xEA (List.mem_map.mp hr) fun z hz yq323 => ?_
     subst yq323
     refine (iAA (by show (0 : Int) ≤ 1; decide) (by show (1 : Int) ≤ 2 ^ 20; decide) (fun p e => ?_))
     cases e
     refine xE (List.getElem?_of_mem hz) fun i hi => ?_
     have hi2 : i < xs.length := by rwa [hl]; exact (List.getElem?_eq_some_iff.mp hi).1
     exact (hc i _ _ (List.getElem?_eq_getElem hi2) hi).bnd
    ·rwa [hm]
     walk_at "g"
     exact ⟨_, Le.skip (Le.skip Le.refl), h⟩
theorem zkm {rs : List (Option (Int × Int) × Int)} {q : Int × Int} (h : zaU rs = some q) : (∀ r ∈ rs, r.1.isSome = true) ∧ q = (max 1 (rs.map zbw).sum, 1 + (rs.map lvF).foldl max 0) := by
 unfold zaU at h
 split at h
 ·cases h
 ·rename_i h1
  split at h
  ·cases h
  ·cases h
   refine ⟨fun r hr => ?_, rfl⟩
   cases e : r.1 with
   | some _ => rfl
   | none => exact absurd (List.any_eq_true.mpr ⟨r, hr, by rwa [e]; rfl⟩) h1
theorem zoe {l : List Int} (h0 : ∀ x ∈ l, 0 ≤ x) {x : Int} (hx : x ∈ l) : x ≤ l.sum := by
 induction l with
 | nil => cases hx
 | cons a r ih =>
  have hs : 0 ≤ r.sum := by
   clear ih hx
   induction r with
   | nil => exact Int.le_refl _
   | cons b t ih2 =>
    rwa [List.sum_cons]
    have := h0 b mz1
    have := ih2 fun y hy => h0 y ((List.mem_cons.mp hy).elim (fun e => e ▸ .head _) fun h => .tail _ (.tail _ h))
    walk_at "o"
  rwa [List.sum_cons]
  rcases List.mem_cons.mp hx with rfl | hx
  ·walk_at "o"
  ·have := ih (fun y hy => h0 y (.tail _ hy)) hx
   have := h0 a (.head _)
   walk_at "o"
theorem zko {rs : List (Option (Int × Int) × Int)} {q : Int × Int} (h : zaU rs = some q) (hb : ∀ r ∈ rs, 0 ≤ r.2 ∧ ∀ p, r.1 = some p → 0 ≤ p.1) {r : Option (Int × Int) × Int} (hr : r ∈ rs) : ∃ p, r.1 = some p ∧ r.2 * p.1 ≤ q.1 ∧ p.2 + 1 ≤ q.2 := by
 refine xA (zkm h) fun h1 yq324 => ?_
 subst yq324
 refine xE (Option.isSome_iff_exists.mp (h1 r hr)) fun p hp => ?_
 refine (ze8 p hp ?_ ?_)
 ·have := zoe (l := rs.map zbw) (fun x hx => by
   refine xEA (List.mem_map.mp hx) fun z hz yq325 => ?_
   subst yq325
   refine xE (Option.isSome_iff_exists.mp (h1 z hz)) fun w hw => ?_
   unfold zbw; rwa [hw]
   exact Int.mul_nonneg (hb z hz).1 ((hb z hz).2 w hw)) (List.mem_map_of_mem (f := zbw) hr)
  have e : zbw r = r.2 * p.1 := by unfold zbw; rwa [hp]; rfl
  dsimp only
  walk_at "o"
 ·have := (zbY (rs.map lvF) 0).2 (lvF r) (List.mem_map_of_mem (f := lvF) hr)
  have e : lvF r = p.2 := by unfold lvF; rwa [hp]; rfl
  dsimp only
  walk_at "o"
theorem zkn {p q : Int × Int} {m : Int} (hm : 0 < m) (hp : 0 ≤ p.1 ∧ 0 ≤ p.2) (h : zaU [(some p, max 1 m)] = some q) : zaU ((List.replicate m.toNat p).map fun q => (some q, (1 : Int))) = some q := by
 have e1 : (((List.replicate m.toNat p).map fun q => (some q, (1 : Int))).map zbw).sum = m * p.1 := by
  rwa [List.map_map, List.map_replicate]
  have : (zbw ∘ fun q : Int × Int => (some q, (1 : Int))) p = p.1 := by show 1 * p.1 = _; walk_at "o"
  rwa [this]
  have key : ∀ k : Nat, (List.replicate k p.1).sum = k * p.1 := fun k => by
   induction k with
   | zero => simp
   | succ k ih => rwa [List.replicate_succ, List.sum_cons, ih]; push_cast; rwa [Int.add_mul]; walk_at "o"
  rwa [key, Int.toNat_of_nonneg (by walk_at "o")]
 have e2 : (((List.replicate m.toNat p).map fun q => (some q, (1 : Int))).map lvF).foldl max 0 = p.2 := by
  rwa [List.map_map, List.map_replicate]
  have : (lvF ∘ fun q : Int × Int => (some q, (1 : Int))) p = p.2 := rfl
  rwa [this]
  obtain ⟨k, hk⟩ : ∃ k, m.toNat = k + 1 := ⟨m.toNat - 1, by walk_at "o"⟩
  rwa [hk, List.replicate_succ, List.foldl_cons, show max 0 p.2 = p.2 by walk_at "o"]
  clear hk
  induction k with
  | zero => rfl
  | succ k ih => rwa [List.replicate_succ, List.foldl_cons, show max p.2 p.2 = p.2 by walk_at "o"]; exact ih
 have e3 : ((List.replicate m.toNat p).map fun q => (some q, (1 : Int))).any (fun r => r.1.isNone) = false := by
  rwa [List.any_eq_false]
  intro r hr
  refine xEA (List.mem_map.mp hr) fun z _ yq326 => ?_
  subst yq326
  simp
 unfold zaU at h ⊢
 rwa [e1, e2, e3]
 have a1 : ([(some p, max 1 m)].map zbw).sum = m * p.1 := by
  show max 1 m * p.1 + 0 = _
  rwa [show max 1 m = m by walk_at "o"]; walk_at "o"
 have a2 : ([(some p, max 1 m)].map lvF).foldl max 0 = p.2 := by show max 0 p.2 = _; walk_at "o"
 rw [a1, a2] at h
 exact h
mutual
noncomputable def flT (β : Str → Bool) : Ty → Bool
 | .leaf _ => true
 | .named p => β p
 | .arr n t => flT β t && decide (0 < n)
 | .struct fs => znq β fs
noncomputable def znq (β : Str → Bool) : List (Str × Ty) → Bool
 | [] => true
 | (_, t) :: r => flT β t && znq β r
end
theorem zim {β : Str → Bool} : ∀ {fs : List (Str × Ty)}, znq β fs = true → ∀ f ∈ fs, flT β f.2 = true
 | [], _, f, hf => by cases hf
 | (n, t) :: r, h, f, hf => by
  unfold znq at h
  rw [Bool.and_eq_true] at h
  refine mcE hf ?_ fun f hf => ?_
  ·exact h.1
  ·exact zim h.2 f hf
theorem zlg (σ : Str → Option (Int × Int)) (fs : List (Str × Ty)) : zk1 σ fs = fs.map fun f => (szT σ f.2, (1 : Int)) := by rwa [zhf, List.map_map]; rfl
set_option maxHeartbeats 4000000 in
theorem zmG {B : zan} (hK : KF B.K) {env : Str → Option Ty} {σ : Str → Option (Int × Int)} {c : Str → Nat} {β : Str → Bool} (W : zk8 env σ c) (Fl : ∀ p T, env p = some T → β p = flT β T) {w : Addr} :
  ∀ (n : Nat) {A : Around} {l : Led} {Ψ : XQ} {Φ : EQ} {T : Ty} {q : Int × Int}, A.depth + 2 * n + 10 < recursionLimit → A.handled = none → A.units + 10 * n + 80 < cLine → zgj w env l → Wf env T → szT σ T = some q → q.2 ≤ n → q.1 ≤ 40 → flT β T = true → (∀ V, Cnt n V q → Φ V l) → Fn B A (.ref 102) [.ref w, zaC T] l Φ Ψ := by
 intro n
 induction n with
 | zero =>
  intro A l Ψ Φ T q hr hh hu hW hT hq h2 _ _ _
  have := zes W hW.ok hT hq
  walk_at "o"
 | succ n ih =>
  intro A l Ψ Φ T q hr hh hu hW hT hq h2 h40 hfl h
  have W0 := hW.ok
  refine xE (zcH hT) fun U hU => ?_
  have hUok := zgg W0 hT hU
  have hqU : szT σ U = some q ∧ flT β U = true := by
   cases T with
   | named p => exact ⟨by rwa [← W.sz p U hU]; exact hq, by rwa [← Fl p U hU]; exact hfl⟩
   | _ => cases hU; exact ⟨hq, hfl⟩
  refine zgD hK (by walk_at "d") fun L c0 e hf hc Fo => ?_
  show Ex _ _ _ _ (_ :: _) _ _
  have hh2 : (A.deeper e).handled = none := hh
  walk_at "g"
  refine zal Fo (by walk_at "m") (zad (kg hK 142)) ?_
  walk_at "g"
  refine ⟨zac (kg hK 141), zab (zfR hK (by show A.depth + 1 + 1 < _; walk_at "o") (by show A.units + 3 + 30 < _; walk_at "o") (hW.up fun p hp => .tail _ (.tail _ hp)) hT hU ?_)⟩
  cases U with
  | named p => exact hUok.1.elim
  | leaf v =>
   have hq1 : q = (1, 1) := by have := hqU.1; cases this; rfl
   subst hq1
   refine zbE (zbu hUok.2 hUok.1) fun us ur hus _ => ?_
   have h3 : (us == ("array" : Str)) = false ∧ (us == ("struct" : Str)) = false := by
    have hl := hUok.2
    change v = _ at hus
    subst hus
    exact ⟨beq_eq_false_iff_ne.mpr hl.2.1, beq_eq_false_iff_ne.mpr hl.2.2⟩
   rwa [hus]
   walk_at "g"
   refine zat ?_
   walk_at "g"
   refine zce (fun q => ?_) (fun q => ?_)
   ·walk_at "g"
    exact ⟨_, Le.skip (Le.skip Le.refl), h _ (.leaf trivial)⟩
   walk_at "g"
   refine zat ?_
   walk_at "g"
   refine zce (fun q => ?_) (fun q => ?_)
   ·walk_at "g"
    exact ⟨_, Le.skip (Le.skip Le.refl), h _ (.leaf trivial)⟩
   walk_at "g"
   refine zat ?_
   walk_at "g"
   refine zce (fun q => ?_) (fun q => ?_)
   ·walk_at "g"
    refine zlX ?_
    walk_at "g"
    exact ⟨_, Le.skip (Le.skip Le.refl), h _ (.leaf trivial)⟩
   walk_at "g"
   refine zat ?_
   rwa [h3.1]
   walk_at "g"
   refine zat ?_
   rwa [h3.2]
   walk_at "g"
   exact ⟨_, Le.skip (Le.skip Le.refl), h _ (.leaf trivial)⟩
  | arr m t =>
   have hm1 : zaU [(szT σ t, max 1 m)] = some q := hqU.1
   have hfl2 : flT β t = true ∧ 0 < m := by have := hqU.2; unfold flT at this; rw [Bool.and_eq_true, decide_eq_true_eq] at this; exact this
   obtain ⟨p, hp, hp1, hp2⟩ := zko hm1 (fun r hr => by
    rwa [List.mem_singleton.mp hr]
    exact ⟨by show 0 ≤ max 1 m; walk_at "o", fun p hp => by have := zes W W0 hUok.2.2 hp; walk_at "o"⟩) (.head _)
   dsimp only at hp hp1
   have hpp := zes W W0 hUok.2.2 hp
   have hmx : max 1 m = m := by walk_at "o"
   rw [hmx] at hp1
   have hpm : p.1 ≤ m * p.1 := by have := Int.mul_le_mul_of_nonneg_right (show 1 ≤ m by walk_at "o") (show 0 ≤ p.1 by walk_at "o"); walk_at "o"
   have hm40 : m ≤ m * p.1 := by have := Int.mul_le_mul_of_nonneg_left (show 1 ≤ p.1 by walk_at "o") (show 0 ≤ m by walk_at "o"); walk_at "o"
   show St _ _ _ _ (.tup [.str "array", .int m, zaC t]) _ _ _
   walk_at "g"
   refine zat ?_
   walk_at "g"
   refine zat ?_
   walk_at "g"
   refine zat ?_
   walk_at "g"
   refine zat ?_
   walk_at "g"
   refine zal Fo (by walk_at "m") (zad (kg hK 214)) ?_
   walk_at "g"
   refine ⟨zac (kg hK 215), zab (ih (by show A.depth + 1 + 2 * n + 10 < _; walk_at "o") hh2 (by show A.units + 3 + 10 * n + 80 < _; walk_at "o") (hW.up fun p hp => .tail _ (.tail _ hp)) hUok.2.2 hp (by walk_at "o") (by walk_at "o") hfl2.1 fun V hV => ?_)⟩
   walk_at "g"
   refine zi4 (by walk_at "o") (by walk_at "o") ?_
   walk_at "g"
   rw [hp] at hm1
   refine ⟨_, Le.skip (Le.skip Le.refl), h _ (.node (zkn hfl2.2 (by walk_at "o") hm1) (by simp) (by simp; walk_at "o") fun i x z hx hz => ?_)⟩
   rwa [List.mem_replicate.mp (List.mem_of_getElem? hx) |>.2, List.mem_replicate.mp (List.mem_of_getElem? hz) |>.2]
   exact hV
  | struct fs =>
   have hm1 : zaU (zk1 σ fs) = some q := hqU.1
   have hfl2 : znq β fs = true := hqU.2
   rw [zlg] at hm1
   have hwf : ∀ f ∈ fs, Wf env f.2 := fun f hf => zha hUok.2.2 f hf
   have hall : ∀ f ∈ fs, ∃ p, szT σ f.2 = some p ∧ p.1 ≤ q.1 ∧ p.2 + 1 ≤ q.2 := fun f hf => by
    obtain ⟨p, hp, a, b⟩ := zko hm1 (fun r hr => by
     refine xEA (List.mem_map.mp hr) fun g hg yq327 => ?_
     subst yq327
     exact ⟨by show (0 : Int) ≤ 1; decide, fun p hp => by have := zes W W0 (hwf g hg) hp; walk_at "o"⟩) (List.mem_map_of_mem (f := fun f : Str × Ty => (szT σ f.2, (1 : Int))) hf)
    exact (ze8 p hp (by dsimp only at a; walk_at "o") b)
   have hlen : fs.length ≤ 100 := hUok.2.1
   show St _ _ _ _ (.tup [.str "struct", .tup (zei fs)]) _ _ _
   walk_at "g"
   refine zat ?_
   walk_at "g"
   refine zat ?_
   walk_at "g"
   refine zat ?_
   walk_at "g"
   refine zat ?_
   walk_at "g"
   refine zat ?_
   walk_at "g"
   refine zah Fo (by walk_at "m") (zaO (n := "tuple") (kg hK 131) zaX (by decide)) ?_
   walk_at "g"
   refine za8 Fo (own := [".0", "row"]) (gs' := ["zero_value"]) (cs := ["world"]) (cl' := [("world", c0)]) (by decide +kernel) rfl (fun p hp => hp) ?_ (by intro _; walk_at "r")
   walk_at "g"
   refine ⟨zei fs, _, fun i ys l' => (ys.length = i ∧ ∀ (j : Nat) (x : AV) (f : Str × Ty) (p : Int × Int), ys[j]? = some x → fs[j]? = some f → szT σ f.2 = some p → Cnt n x p) ∧ l' = (L, zaa.ns [("T", some (zaC T)), ("inner", some (.tup [.str "struct", .tup (zei fs)]))]) :: (c0, zaa.cell (some (.ref w))) :: l, _, _, zdl hh2, trivial, by rwa [zbO]; walk_at "o", ⟨⟨rfl, fun j x f p hx => by cases hx⟩, rfl⟩, fun _ _ _ _ _ => trivial, ?_, ?_⟩
   ·intro C env' i x ys m ks l' hx zq93 Fo' hm
    refine xA zq93 fun yq328 yq329 => ?_
    clear zq93
    obtain ⟨hys, hcn⟩ := yq328
    subst yq329
    refine xEE (zdk hm) fun a b yq330 => ?_
    subst yq330
    refine xEA (zoD hx) fun f hf' yq331 => ?_
    subst yq331
    have hfm := List.mem_of_getElem? hf'
    refine zdx (hall f hfm) fun p hp p1 p2 => ?_
    walk_at "g"
    refine zal Fo' (by walk_at "m") (zad (kg hK 214)) ?_
    walk_at "g"
    refine ⟨zac (kg hK 215), zab (ih (by show A.depth + 1 + 2 * n + 10 < _; walk_at "o") hh2 (by show A.units + 3 + 10 * n + 80 < _; walk_at "o") (hW.up fun p hp => by walk_at "m") (hwf f hfm) hp (by walk_at "o") (by walk_at "o") (zim hfl2 f hfm) fun V hV => ?_)⟩
    refine ⟨_, _, rfl, Le.refl, ⟨by simp [hys], fun j y g z hy hg hz => ?_⟩, rfl⟩
    by_cases hj : j < ys.length
    ·rw [List.getElem?_append_left hj] at hy
     exact hcn j y g z hy hg hz
    ·have hj2 : j = ys.length := by
      have := (List.getElem?_eq_some_iff.mp hy).1
      rw [List.length_append] at this
      change j < ys.length + 1 at this
      walk_at "o"
     subst hj2
     rw [List.getElem?_append_right (Nat.le_refl _), Nat.sub_self] at hy
     cases hy
     rw [hys, hf'] at hg
     cases hg
     rw [hp] at hz
     cases hz
     exact hV
   ·intro ys l' zq94 D
    refine xA zq94 fun yq332 yq333 => ?_
    clear zq94
    obtain ⟨hys, hcn⟩ := yq332
    subst yq333
    rw [zbO] at hys
    walk_at "g"
    refine ⟨zaA, zbp (.head _) (by walk_at "o") ?_⟩
    walk_at "g"
    refine ⟨_, Le.skip (Le.skip (Le.skip Le.refl)), h _ (.node (qs := fs.map fun f => (szT σ f.2).getD (0, 0)) ?_ (by rwa [List.length_map]; exact hys) (by walk_at "o") fun i x z hx hz => ?_)⟩
    ·have e : ((fs.map fun f => (szT σ f.2).getD (0, 0)).map fun q => (some q, (1 : Int))) = fs.map fun f => (szT σ f.2, (1 : Int)) := by
      rwa [List.map_map]
      refine List.map_congr_left fun f hf => ?_
      refine xEA (hall f hf) fun p hp _ => ?_
      show (some ((szT σ f.2).getD (0, 0)), (1 : Int)) = _
      rwa [hp]; rfl
     rwa [e]; exact hm1
    ·rw [List.getElem?_map] at hz
     cases hg : fs[i]? with
     | none => rw [hg] at hz; cases hz
     | some f =>
      rw [hg] at hz
      refine xEA (hall f (List.mem_of_getElem? hg)) fun p hp _ => ?_
      have : z = p := by
       have e := Option.some.inj hz
       rwa [← e]
       show (szT σ f.2).getD (0, 0) = p
       rwa [hp]; rfl
      rwa [this]
      exact hcn i x f p hx hg hp
theorem mT (k : Nat) : Str.ofString "m.T" ++ Str.ofString (toString (k : Int)) = nmP "T" k := by
 have : (Str.ofString "m.T") = (Str.ofString "m." ++ Str.ofString "T") := by decide +kernel
 rwa [this]; rfl
theorem zf7 {α : Type} {d : α} : ∀ {L : List (Str × α)} {k : Str} {v : α}, (L.map (·.1)).Nodup → (k, v) ∈ L → zb1 d L k = v
 | [], _, _, _, h => by cases h
 | (x, y) :: r, k, v, nd, h => by
  rw [List.map_cons, List.nodup_cons] at nd
  unfold zb1
  rcases List.mem_cons.mp h with e | h
  ·cases e; rwa [beq_self_eq_true, if_pos rfl]
  ·rwa [show (x == k) = false from beq_eq_false_iff_ne.mpr fun e => nd.1 (by rwa [e]; exact List.mem_map_of_mem (f := (·.1)) h)]
   exact zf7 nd.2 h
noncomputable def rL {α : Type} (kn : List (Str × α)) (vs : List α) : List (Str × α) := kn ++ vs.zipIdx.map fun q => (nmP "T" q.2, q.1)
noncomputable def kn4 : List Str := ["error", "runtime.Error", "sync.Mutex", "sync.WaitGroup"]
noncomputable def zfd (n : Nat) : List Str := kn4 ++ (List.range n).map (nmP "T")
noncomputable def znO (n : Nat) : List Str := ("error" : Str) :: ((List.range n).map (nmP "T") ++ (["runtime.Error", "sync.Mutex", "sync.WaitGroup"] : List Str))
theorem zhj {α : Type} {kn : List (Str × α)} (hk : kn.map (·.1) = kn4) (vs : List α) : (rL kn vs).map (·.1) = zfd vs.length := by
 unfold rL zfd
 rwa [List.map_append, hk, List.map_map]
 congr 1
 have : ((fun x : Str × α => x.1) ∘ fun q : α × Nat => (nmP "T" q.2, q.1)) = nmP "T" ∘ Prod.snd := rfl
 rwa [this, ← List.map_map, List.zipIdx_map_snd, List.range_eq_range']
theorem zhk : ∀ n : Fin 10, (zfd n).Nodup := by decide +kernel
theorem zf0 {n : Nat} (h : n ≤ 9) : (zfd n).Nodup := zhk ⟨n, by walk_at "o"⟩
theorem zm8 {α : Type} {d : α} {kn : List (Str × α)} (hk : kn.map (·.1) = kn4) {vs : List α} (hl : vs.length ≤ 9) {k : Nat} {v : α} (h : vs[k]? = some v) : zb1 d (rL kn vs) (nmP "T" k) = v :=
 zf7 (by rwa [zhj hk]; exact zf0 hl) (List.mem_append_right _ (List.mem_map.mpr (iEA (v, k) (List.mem_zipIdx_iff_getElem?.mpr h) rfl)))
theorem zqj {α : Type} {d : α} {kn : List (Str × α)} (hk : kn.map (·.1) = kn4) {vs : List α} (hl : vs.length ≤ 9) {k : Str} {v : α} (h : (k, v) ∈ kn) : zb1 d (rL kn vs) k = v :=
 zf7 (by rwa [zhj hk]; exact zf0 hl) (List.mem_append_left _ h)
theorem zm5 : ∀ n, n ≤ 9 → zc7 (zfd n) (znO n)
 | 0, _ => by intro prog P b tk; cases b <;> kernel_rfl
 | 1, _ => by intro prog P b tk; cases b <;> kernel_rfl
 | 2, _ => by intro prog P b tk; cases b <;> kernel_rfl
 | 3, _ => by intro prog P b tk; cases b <;> kernel_rfl
 | 4, _ => by intro prog P b tk; cases b <;> kernel_rfl
 | 5, _ => by intro prog P b tk; cases b <;> kernel_rfl
 | 6, _ => by intro prog P b tk; cases b <;> kernel_rfl
 | 7, _ => by intro prog P b tk; cases b <;> kernel_rfl
 | 8, _ => by intro prog P b tk; cases b <;> kernel_rfl
 | 9, _ => by intro prog P b tk; cases b <;> kernel_rfl
 | n + 10, h => absurd h (by walk_at "o")
noncomputable def knS : List (Str × Option (Int × Int)) := [("error", some (1, 1)), ("runtime.Error", some (1, 1)), ("sync.Mutex", some (1, 2)), ("sync.WaitGroup", some (1, 2))]
noncomputable def knC : List (Str × Nat) := [("error", 10), ("runtime.Error", 10), ("sync.Mutex", 10), ("sync.WaitGroup", 10)]
noncomputable def knB : List (Str × Bool) := [("error", true), ("runtime.Error", true), ("sync.Mutex", true), ("sync.WaitGroup", true)]
theorem zlI : knS.map (·.1) = kn4 := by decide +kernel
theorem zid : knC.map (·.1) = kn4 := by decide +kernel
theorem zlJ : knB.map (·.1) = kn4 := by decide +kernel
theorem zeQ : zca.map (·.1) = kn4 := by kernel_rfl
noncomputable def rσ (rows : List zbr) : Str → Option (Int × Int) := zb1 none (rL knS (rows.map (·.o)))
noncomputable def rc (n : Nat) : Str → Nat := zb1 0 (rL knC ((List.range n).map fun k => 10 * 4 ^ k))
noncomputable def rβ (rows : List zbr) : Str → Bool := zb1 false (rL knB (rows.map (·.b)))
structure zqL (σ : Str → Option (Int × Int)) (c : Str → Nat) (β : Str → Bool) (X : Str → Option Ty) (k : Nat) (T : Ty) (o : Option (Int × Int)) (b : Bool) : Prop where
 nn : zaV T
 wf : Wf X T
 sz : szT σ T = o
 fl : flT β T = b
 co : zbd c T + 2 ≤ 10 * 4 ^ k
theorem zne {p : Str} {v : AV} (h : v ∈ zib p) : zeP v := by
 simp only [zib, List.mem_cons, List.not_mem_nil, or_false] at h
 rcases h with rfl | rfl | rfl | rfl | rfl | rfl | rfl | rfl <;> exact ⟨by decide, by decide, by decide⟩
section
variable {rows : List zbr} {σ : Str → Option (Int × Int)} {c : Str → Nat} {β : Str → Bool} {X : Str → Option Ty} (hσ : ∀ (k : Nat) (r : zbr), rows[k]? = some r → σ (nmP "T" k) = r.o) (hβ : ∀ (k : Nat) (r : zbr), rows[k]? = some r → β (nmP "T" k) = r.b) (hc : ∀ k, k < rows.length → c (nmP "T" k) = 10 * 4 ^ k)
 (hX : ∀ k, k < rows.length → (X (nmP "T" k)).isSome = true)
include hσ hβ hc hX
theorem zii {pre : List zbr} (hp : ∀ (k : Nat) (r : zbr), pre[k]? = some r → rows[k]? = some r) {r : zbr} (h : zb3 pre r) : Wf X r.T ∧ szT σ r.T = r.o ∧ flT β r.T = r.b ∧ zbd c r.T ≤ 2 + 10 * 4 ^ (pre.length - 1) := by
 have hm : ∀ {k : Nat}, k < pre.length → 10 * 4 ^ k ≤ 10 * 4 ^ (pre.length - 1) := fun hk => Nat.mul_le_mul_left _ (Nat.pow_le_pow_right (by decide) (by walk_at "o"))
 cases h with
 | leaf hk hv => exact (zjf (zne hv) rfl rfl (by show 2 ≤ _; walk_at "o"))
 | @named k r' hr =>
  have hk := (List.getElem?_eq_some_iff.mp hr).1
  have hr2 := hp k r' hr
  have hk2 := (List.getElem?_eq_some_iff.mp hr2).1
  have := hm hk
  rwa [mT]
  exact (zjf (hX k hk2) (hσ k r' hr2) (hβ k r' hr2) (by show c (nmP "T" k) ≤ _; rwa [hc k hk2]; walk_at "o"))
 | @arr k r' n hr h0 h1 =>
  have hk := (List.getElem?_eq_some_iff.mp hr).1
  have hr2 := hp k r' hr
  have hk2 := (List.getElem?_eq_some_iff.mp hr2).1
  have := hm hk
  rwa [mT]
  refine (zjf ⟨⟨h0, by walk_at "o"⟩, hX k hk2⟩ ?_ ?_ ?_)
  ·show zaU [(σ (nmP "T" k), max 1 n)] = _; rwa [hσ k r' hr2]
  ·show (β (nmP "T" k) && decide (0 < n)) = _; rwa [hβ k r' hr2]
  ·show 2 + c (nmP "T" k) ≤ _; rwa [hc k hk2]; walk_at "o"
theorem zgM {pre : List zbr} (hp : ∀ (k : Nat) (r : zbr), pre[k]? = some r → rows[k]? = some r) : ∀ (j : Nat) (rs : List zbr), (∀ r ∈ rs, zb3 pre r) → Wf.WfL X (zay j rs) ∧ zk1 σ (zay j rs) = rs.map (fun r => (r.o, (1 : Int))) ∧ znq β (zay j rs) = zcj rs ∧ zcp c (zay j rs) ≤ rs.length * (2 + 10 * 4 ^ (pre.length - 1)) ∧ (zay j rs).length = rs.length
 | j, [], _ => (zje trivial rfl rfl (by show 0 ≤ _; walk_at "o") rfl)
 | j, r :: rs, h => by
  refine zmJ (zii hσ hβ hc hX hp (h r (.head _))) fun a1 a2 a3 a4 => ?_
  refine ziH (zgM hp (j + 1) rs fun x hx => h x (.tail _ hx)) fun b1 b2 b3 b4 b5 => ?_
  refine (zje ⟨a1, b1⟩ ?_ ?_ ?_ ?_)
  ·show (szT σ r.T, (1 : Int)) :: zk1 σ (zay (j + 1) rs) = _; rwa [a2, b2]; rfl
  ·show (flT β r.T && znq β (zay (j + 1) rs)) = _; rwa [a3, b3]; rfl
  ·show zbd c r.T + zcp c (zay (j + 1) rs) ≤ (rs.length + 1) * _; rwa [Nat.add_mul]; walk_at "o"
  ·show (zay (j + 1) rs).length + 1 = _; rwa [b5]; rfl
theorem zj2 : ∀ {pre : List zbr}, zcc pre → (∀ (k : Nat) (r : zbr), pre[k]? = some r → rows[k]? = some r) → ∀ (k : Nat) (r : zbr), pre[k]? = some r → zqL σ c β X k r.T r.o r.b := by
 intro pre h
 induction h with
 | start =>
  intro hp k r hr
  match k, hr with
  | 0, hr => cases hr; exact ⟨trivial, ⟨by show 0 ≤ 100; walk_at "o", trivial⟩, by show zaU [] = _; decide, rfl, by show 2 + 0 + 2 ≤ 10; walk_at "o"⟩
  | k + 1, hr => cases hr
 | @arr pre r n hpre hin h0 h1 ih =>
  intro hp k x hx
  have hp' : ∀ (k : Nat) (r : zbr), pre[k]? = some r → rows[k]? = some r := fun k r h => hp k r (by rwa [List.getElem?_append_left (List.getElem?_eq_some_iff.mp h).1]; exact h)
  by_cases hk : k < pre.length
  ·rw [List.getElem?_append_left hk] at hx
   exact ih hp' k x hx
  ·rw [List.getElem?_append_right (by walk_at "o")] at hx
   have hk0 : k - pre.length = 0 := by have := (List.getElem?_eq_some_iff.mp hx).1; change _ < 1 at this; walk_at "o"
   rw [hk0] at hx
   cases hx
   refine zmJ (zii hσ hβ hc hX hp' hin) fun a1 a2 a3 a4 => ?_
   have hpos : 0 < pre.length := by cases hpre <;> simp
   have hk1 : k = (pre.length - 1) + 1 := by walk_at "o"
   refine ⟨trivial, ⟨⟨h0, by walk_at "o"⟩, a1⟩, ?_, ?_, ?_⟩
   ·show zaU [(szT σ r.T, max 1 n)] = _; rwa [a2]
   ·show (flT β r.T && decide (0 < n)) = _; rwa [a3]
   ·show 2 + zbd c r.T + 2 ≤ _
    have h4 : 1 ≤ 4 ^ (pre.length - 1) := Nat.one_le_pow _ _ (by decide)
    rwa [hk1, Nat.pow_succ]; walk_at "o"
 | @struct pre rs hpre hin hl ih =>
  intro hp k x hx
  have hp' : ∀ (k : Nat) (r : zbr), pre[k]? = some r → rows[k]? = some r := fun k r h => hp k r (by rwa [List.getElem?_append_left (List.getElem?_eq_some_iff.mp h).1]; exact h)
  by_cases hk : k < pre.length
  ·rw [List.getElem?_append_left hk] at hx
   exact ih hp' k x hx
  ·rw [List.getElem?_append_right (by walk_at "o")] at hx
   have hk0 : k - pre.length = 0 := by have := (List.getElem?_eq_some_iff.mp hx).1; change _ < 1 at this; walk_at "o"
   rw [hk0] at hx
   cases hx
   refine ziH (zgM hσ hβ hc hX hp' 0 rs hin) fun b1 b2 b3 b4 b5 => ?_
   have hpos : 0 < pre.length := by cases hpre <;> simp
   have hk1 : k = (pre.length - 1) + 1 := by walk_at "o"
   refine ⟨trivial, ⟨by rwa [b5]; walk_at "o", b1⟩, ?_, b3, ?_⟩
   ·show zaU (zk1 σ (zay 0 rs)) = _; rwa [b2]
   ·show 2 + zcp c (zay 0 rs) + 2 ≤ _
    have h4 : 1 ≤ 4 ^ (pre.length - 1) := Nat.one_le_pow _ _ (by decide)
    have h5 : rs.length * (2 + 10 * 4 ^ (pre.length - 1)) ≤ 3 * (2 + 10 * 4 ^ (pre.length - 1)) := Nat.mul_le_mul_right _ hl
    rwa [hk1, Nat.pow_succ]; walk_at "o"
end
noncomputable def rN (rows : List zbr) : List (Str × Ty) := (rows.map (·.T)).zipIdx.map fun q => (nmP "T" q.2, q.1)
noncomputable def rW (rows : List zbr) : List (Str × Ty) := za9 "T" (rows.map (·.T))
theorem zom (rows : List zbr) : rW rows = zca ++ rN rows := rfl
theorem zdG (rows : List zbr) : (rW rows).map (·.1) = zfd rows.length := by
 have := zhj (kn := zca) zeQ (rows.map (·.T))
 rw [List.length_map] at this
 exact this
theorem zqi {rows : List zbr} (hl : rows.length ≤ 9) : ((rW rows).map (·.1)).Nodup := by rwa [zdG]; exact zf0 hl
theorem zh7 {rows : List zbr} {p : Str} {T : Ty} (h : (p, T) ∈ rN rows) : ∃ k r, rows[k]? = some r ∧ p = nmP "T" k ∧ T = r.T := by
 refine xEA (List.mem_map.mp h) fun yq132 hq e => ?_
 obtain ⟨U, k⟩ := yq132
 have := List.mem_zipIdx_iff_getElem?.mp hq
 dsimp only at this
 rw [List.getElem?_map] at this
 cases hr : rows[k]? with
 | none => rw [hr] at this; cases this
 | some r =>
  rw [hr] at this
  cases this
  cases e
  exact (zkD k r hr rfl rfl)
theorem zm7 {rows : List zbr} {k : Nat} {r : zbr} (h : rows[k]? = some r) : (nmP "T" k, r.T) ∈ rN rows :=
 List.mem_map.mpr (iEA (r.T, k) (List.mem_zipIdx_iff_getElem?.mpr (by show (rows.map (·.T))[k]? = _; rwa [List.getElem?_map, h]; rfl)) rfl)
theorem zlq {rows : List zbr} (hl : rows.length ≤ 9) {k : Nat} {r : zbr} (h : rows[k]? = some r) : rσ rows (nmP "T" k) = r.o := zm8 zlI (by rwa [List.length_map]; exact hl) (by rwa [List.getElem?_map, h]; rfl)
theorem zlr {rows : List zbr} (hl : rows.length ≤ 9) {k : Nat} {r : zbr} (h : rows[k]? = some r) : rβ rows (nmP "T" k) = r.b := zm8 zlJ (by rwa [List.length_map]; exact hl) (by rwa [List.getElem?_map, h]; rfl)
theorem zel {n : Nat} (hl : n ≤ 9) {k : Nat} (h : k < n) : rc n (nmP "T" k) = 10 * 4 ^ k := zm8 zid (by rwa [List.length_map, List.length_range]; exact hl) (by rwa [List.getElem?_map, List.getElem?_range h]; rfl)
theorem ziP {rows : List zbr} (h : zcc rows) (hl : rows.length ≤ 9) : zk8 (zbJ (rN rows)) (rσ rows) (rc rows.length) ∧ (∀ p T, zbJ (rN rows) p = some T → zaV T ∧ Wf (zbJ (rN rows)) T) ∧ ∀ p T, zbJ (rN rows) p = some T → rβ rows p = flT (rβ rows) T := by
 have hX : ∀ k, k < rows.length → (zbJ (rN rows) (nmP "T" k)).isSome = true := fun k hk => zaF.mpr (List.mem_map_of_mem (f := (·.1)) (zm7 (List.getElem?_eq_getElem hk)))
 have key := zj2 (rows := rows) (fun k r hr => zlq hl hr) (fun k r hr => zlr hl hr) (fun k hk => zel hl hk) hX h fun k r hr => hr
 have at_ : ∀ p T, zbJ (rN rows) p = some T → ∃ k r, rows[k]? = some r ∧ p = nmP "T" k ∧ T = r.T := fun p T e => zh7 (zck e)
 refine (iAA ⟨fun p T e => ?_, fun p T e => ?_⟩ (fun p T e => ?_) (fun p T e => ?_))
 all_goals
  refine zbS (at_ p T e) fun k r hr yq133 yq134 => ?_
  subst yq133
  subst yq134
  have q := key k r hr
  have hk := (List.getElem?_eq_some_iff.mp hr).1
 ·rwa [zlq hl hr, q.sz]
 ·rwa [zel hl hk]; have := q.co; walk_at "o"
 ·exact ⟨q.nn, q.wf⟩
 ·rwa [zlr hl hr, q.fl]
theorem zqr (X : Str → Option Ty) (σ : Str → Option (Int × Int)) (c : Str → Nat) : ∀ p T, (p, T) ∈ zca → zaV T ∧ Wf X T ∧ zbd c T ≤ 4 := by
 intro p T h
 simp only [zca, List.mem_cons, List.not_mem_nil, or_false] at h
 have hi : zeP (.tup [.str "int", .str "int"]) := ⟨by decide, by decide, by decide⟩
 rcases h with e | e | e | e <;> cases e
 ·exact (iAA trivial ⟨by decide, by decide, by decide⟩ (by show 2 ≤ 4; walk_at "o"))
 ·exact (iAA trivial ⟨by decide, by decide, by decide⟩ (by show 2 ≤ 4; walk_at "o"))
 ·exact (iAA trivial ⟨by show 1 ≤ 100; walk_at "o", hi, trivial⟩ (by show 2 + (2 + 0) ≤ 4; walk_at "o"))
 ·exact (iAA trivial ⟨by show 1 ≤ 100; walk_at "o", hi, trivial⟩ (by show 2 + (2 + 0) ≤ 4; walk_at "o"))
theorem zrw {n : Nat} (hl : n ≤ 9) {p : Str} (h : p ∈ kn4) : rc n p = 10 := by
 refine zqj zid (by rwa [List.length_map, List.length_range]; exact hl) ?_
 simp only [kn4, List.mem_cons, List.not_mem_nil, or_false] at h
 unfold knC
 rcases h with rfl | rfl | rfl | rfl
 ·exact .head _
 ·exact .tail _ (.head _)
 ·exact .tail _ mz1
 ·exact .tail _ mz2
theorem zlu {rows : List zbr} (h : zcc rows) (hl : rows.length ≤ 9) : zg4 (zbJ (rW rows)) (rc rows.length) ∧ (∀ p T, zbJ (rW rows) p = some T → zaV T ∧ Wf (zbJ (rW rows)) T) ∧ ∀ p, (zbJ (rW rows) p).isSome = true → rc rows.length p + 1 ≤ 900000 := by
 have hX : ∀ k, k < rows.length → (zbJ (rW rows) (nmP "T" k)).isSome = true := fun k hk => zaF.mpr (by rwa [zom, List.map_append]; exact List.mem_append_right _ (List.mem_map_of_mem (f := (·.1)) (zm7 (List.getElem?_eq_getElem hk))))
 have key := zj2 (rows := rows) (fun k r hr => zlq hl hr) (fun k r hr => zlr hl hr) (fun k hk => zel hl hk) hX h fun k r hr => hr
 have at_ : ∀ p T, zbJ (rW rows) p = some T → ((p, T) ∈ zca ∧ p ∈ kn4) ∨ ∃ k r, rows[k]? = some r ∧ p = nmP "T" k ∧ T = r.T := fun p T e => by
  have := zck e
  rw [zom] at this
  rcases List.mem_append.mp this with hm | hm
  ·exact .inl ⟨hm, by rwa [← zeQ]; exact List.mem_map_of_mem (f := (·.1)) hm⟩
  ·exact .inr (zh7 hm)
 have both : ∀ p T, zbJ (rW rows) p = some T → (zbd (rc rows.length) T + 2 ≤ rc rows.length p ∧ rc rows.length p + 1 ≤ 900000) ∧ zaV T ∧ Wf (zbJ (rW rows)) T := fun p T e => by
  rcases at_ p T e with ⟨hm, hk⟩ | ⟨k, r, hr, rfl, rfl⟩
  ·refine xAA (zqr (zbJ (rW rows)) (rσ rows) (rc rows.length) p T hm) fun a b c => ?_
   rwa [zrw hl hk]
   exact (iAA (by walk_at "o") a b)
  ·have q := key k r hr
   have hk := (List.getElem?_eq_some_iff.mp hr).1
   rwa [zel hl hk]
   have h4 : 4 ^ k ≤ 4 ^ 8 := Nat.pow_le_pow_right (by decide) (by walk_at "o")
   have h48 : (4 : Nat) ^ 8 = 65536 := by decide
   exact (iAA ⟨q.co, by walk_at "o"⟩ q.nn q.wf)
 refine (iAA ⟨fun p T e => (both p T e).1.1⟩ (fun p T e => (both p T e).2) (fun p hp => ?_))
 refine xE (Option.isSome_iff_exists.mp hp) fun T hT => ?_
 exact (both p T hT).1.2
theorem ziS : ∀ n : Fin 10, (zfd n).all (fun p => decide (p.length ≤ 1000)) = true := by decide +kernel
theorem zm6 : ∀ n : Fin 10, (znO n).all (fun p => (zfd n).contains p) = true := by decide +kernel
theorem zly (n : Nat) : (znO n).length = n + 4 := by unfold znO; simp
theorem zgC (n : Nat) : (zfd n).length = n + 4 := by unfold zfd kn4; simp
theorem zjq : bootBuiltins "list" = some (.type "list") := by decide +kernel
theorem znu {B : zan} {A : Around} {env : Env} {l : Led} {e : Expr} {Φ Φ' : EQ} {Ψ : XQ} (h : Ev B A env l e Φ Ψ) (hq : ∀ a l1, Φ a l1 → Φ' a l1) : Ev B A env l e Φ' Ψ := .mk <| Tr.mono h.go hq fun _ _ q => q
noncomputable def zbL (pa src sh du ra L c0 w : Addr) (xs : List Nat) (a b : Int) (es due : List (Str × AV)) (rows : List zbr) (pl : AV) (kv pv tv : Option AV) (l : Led) : Led :=
 (pa, zaa.list (xs.map fun (i : Nat) => AV.int (i : Int))) :: (src, zaa.list [.int a, .int b]) :: (sh, zaa.dict es) :: (du, zaa.dict due) :: (ra, zaa.list (rows.map zax)) ::
  (L, zaa.ns [("source", some (.ref src)), ("rows", some (.ref ra)), ("shared", some (.ref sh)), ("due", some (.ref du)), ("places", some pl), ("k", kv), ("path", pv), ("told", tv)]) :: (c0, zaa.cell (some (.ref w))) :: l
theorem zfF {B : zan} {A : Around} {env : Env} {l : Led} {Ψ : XQ} {Φ : EQ} {pos : Pos} {L : Addr} {ls gs : List Str} {cl fl : List (Str × Addr)} {params : Arguments} {body : Expr} {scope : Scope} {c P : Addr} {f : zaa → Led} {cl' : List (Str × Addr)} (Fo : zaf env L ls gs cl fl) (hdef : defaultsOf params env = ([], [])) (hcode : env.code = .ref c) (hC : (c, P) ∈ B.tabs) (hu : Up l P (.raw (tabObj #[])) f)
  (hcl : cl'.map (·.1) = ((scope.names.filter (fun x => x.2 == .free)).map (·.1)).reverse) (hcs : ∀ p ∈ cl', p ∈ cl) (hne : cl' ≠ [])
  (h : ∀ fn c' oc ctv pm qual ps, znX oc qual → Φ (.ref fn) ((fn, zaa.raw (zlG qual params body scope cl' pm c' ctv)) :: (c', zaa.raw oc) :: f (.raw (tabObj ps)))) :
  Ev B A env l (.Lambda params body scope pos) Φ Ψ :=
 zcF Fo hdef hcode hC (ps0 := #[]) hu trivial rfl hcl hcs hne fun fn c' oc ctv pm qual ho => h fn c' oc ctv pm qual _ ho
noncomputable def PlQ (n : Nat) (F : Addr → List Nat → Int → Int → Led) (a : AV) (l : Led) : Prop := ∃ pa xs a2 b2, a = .ref pa ∧ (∀ k ∈ xs, k < n) ∧ (∀ k, k < n → k ∈ xs) ∧ 0 ≤ a2 ∧ 0 ≤ b2 ∧ b2 < 2147483647 ∧ Le (F pa xs a2 b2) l
theorem zmE {n : Nat} {F : Addr → List Nat → Int → Int → Led} {a : AV} {l : Led} (pa : Addr) (xs : List Nat) (a2 b2 : Int) (h1 : a = .ref pa) (h2 : ∀ k ∈ xs, k < n) (h3 : ∀ k, k < n → k ∈ xs) (h4 : 0 ≤ a2) (h5 : 0 ≤ b2) (h6 : b2 < 2147483647) (h7 : Le (F pa xs a2 b2) l) : PlQ n F a l := ⟨pa, xs, a2, b2, h1, h2, h3, h4, h5, h6, h7⟩
set_option maxHeartbeats 4000000 in
theorem zls {B : zan} {A : Around} {l : Led} {Ψ : XQ} {Φ : EQ} (hK : KF B.K) (hB : B.tabs = zjQ) (hr : A.depth + 300 < recursionLimit) (hh : A.handled = none) (hu : A.units + 1000 < cLine) {fr : List Env} (hfr : A.frames = some fr) (F : FrL l fr) {src : Addr} {a b : Int} (h0 : 0 ≤ a ∧ 0 ≤ b ∧ b < 2147483647)
  (h : ∀ a' b' ps, 0 ≤ a' → 0 ≤ b' → b' < 2147483647 → Φ (.bool true) ((src, zaa.list [.int a', .int b']) :: (741, .raw (tabObj ps)) :: l)) : Fn B A (.ref 744) [.ref src] ((src, zaa.list [.int a, .int b]) :: (741, .raw (tabObj #[])) :: l) Φ Ψ := by
 refine zed hK (by walk_at "d") fun L c0 e hf hc Fo => ?_
 show Ex _ _ _ _ (_ :: _) _ _
 have hh2 : (A.deeper e).handled = none := hh
 have hfr2 : (A.deeper e).frames = some (e :: fr) := by show A.frames.map (e :: ·) = _; rwa [hfr]; rfl
 refine zai ?_
 refine zav hh2 (zlh Fo.kind (Fo.loc _ (by walk_at "m")) (Fo.loc _ (by walk_at "m")) (Fo.loc _ (by walk_at "m")) (by walk_at "r") (by walk_at "r") (by decide) (by decide) (by decide) (by walk_at "r") (by walk_at "r") (by walk_at "r") (by walk_at "r")) ?_
 walk_at "g"
 refine zal Fo (by walk_at "m") (zad (kg hK 217)) ?_
 walk_at "g"
 refine ⟨zac (kg hK 218), zab (zmV hK (by walk_at "d") hh2 (by walk_at "d") (.tail (.tail .head)) h0 fun ra rows a1 b1 hR hl9 a1p b1p b1q => ?_)⟩
 walk_at "g"
 intro sh
 walk_at "g"
 intro du
 walk_at "g"
 refine ⟨_, rfl, rfl, ?_⟩
 show Sr _ _ _ [_, _, _] [_, _, _] _ _ _
 walk_at "g"
 refine zal Fo (by walk_at "m") (zad (kg hK 204)) ?_
 walk_at "g"
 refine za8 Fo (own := [".0", "row"]) (gs' := []) (cs := []) (cl' := []) (by decide +kernel) rfl (fun _ h => nomatch h) ?_ (by intro _; walk_at "r")
 walk_at "g"
 refine ⟨rows.map zax, _, fun i ys l' => ys = ((rows.take i).map fun r => zaC r.T) ∧ l' = (du, zaa.dict []) :: (sh, zaa.dict []) :: (ra, zaa.list (rows.map zax)) :: (L, zaa.ns [("source", some (.ref src)), ("rows", some (.ref ra)), ("shared", some (.ref sh)), ("due", some (.ref du)), ("places", none), ("k", none), ("path", none), ("told", none)]) :: (c0, zaa.cell none) :: (src, zaa.list [.int a1, .int b1]) :: (741, .raw (tabObj #[])) :: l, _, _, zbx hh2 (by walk_at "m"), trivial, by simp; walk_at "o", ⟨rfl, rfl⟩, ?_, ?_, ?_⟩
 ·intro i ys l' k zq12
  revert ys l'
  refine sQQ ?_
  exact List.mem_append_right _ (by walk_at "m")
 ·intro C env' i x ys m ks l' hx zq13 Fo' hm
  revert ys l'
  refine sQQ ?_
  refine xEE (zdk hm) fun m1 m2 yq139 => ?_
  subst yq139
  refine xEA (zfY hx) fun r hr' yq140 => ?_
  subst yq140
  walk_at "g"
  show zjw _ _ _ _ (.tup [zaC r.T, zaT r.o, .bool r.b]) _ _ _ _
  walk_at "g"
  exact ⟨_, _, rfl, Le.refl, by rwa [zaM hr', List.map_append]; rfl, rfl⟩
 intro ys l' zq14 D
 revert ys l'
 refine sQQ ?_
 have hTs : List.map (fun r : zbr => zaC r.T) (List.take (List.map zax rows).length rows) = (rows.map (·.T)).map zaC := by rwa [List.length_map, List.take_length, List.map_map]; rfl
 rwa [hTs]
 walk_at "g"
 refine ⟨zac (kg hK 205), zab (zeO (t := D) (Ts := List.map zbr.T rows) hK (by walk_at "d") hh2 (.head _) (by decide +kernel) (by rwa [List.length_map]; walk_at "o") (zqi hl9) fun w wd nd d0 d1 d2 d3 d4 d5 d6 d7 lk lp lz rs hrs => ?_)⟩
 walk_at "s"
 refine zai ?_
 walk_at "s"
 refine zal Fo (by walk_at "m") (zad (kg hK 208)) ?_
 refine zby ?_ (by walk_at "r")
 refine zfF Fo (c := 743) (P := 741) (cl' := [("world", c0)]) rfl (hc.trans (kg hK 216)) (by rwa [hB]; exact .tail _ (.head _)) (.tail (.tail (.tail (.tail (.tail (.tail (.app (.tail (.tail (.tail (.tail (.tail (.tail (.tail .head)))))))))))))) rfl (fun p hp => hp) (by simp) fun fn c' oc ctv pm qual ps1 ho => ?_
 walk_at "s"
 have hbig := zlu hR hl9
 have hkeys : ∀ p, (zbJ (rW rows) p).isSome = true → p ∈ (rW rows).map (·.1) := fun p hp => zaF.mp hp
 have hlong : ∀ p, (zbJ (rW rows) p).isSome = true → p.length ≤ 1000 := fun p hp => by
  have := hkeys p hp
  rw [zdG] at this
  exact of_decide_eq_true (List.all_eq_true.mp (ziS ⟨rows.length, by walk_at "o"⟩) p this)
 have hout : ∀ p ∈ znO rows.length, (zbJ (rW rows) p).isSome = true := fun p hp => zaF.mpr (by
  rwa [zdG]
  exact List.contains_iff_mem.mp (List.all_eq_true.mp (zm6 ⟨rows.length, by walk_at "o"⟩) p hp))
 refine ⟨zac (kg hK 209), zab (zew (env := zbJ (rW rows)) (names := (rW rows).map (·.1)) (out := znO rows.length) (J := fun _ op done => op = [] ∧ ∀ q ∈ done, q ∈ (rW rows).map (·.1)) (C := False) hK (by walk_at "d") hh2 (by walk_at "d") hfr2 (FrL.cons Fo.kind hf (by walk_at "m") (F.le fun p hp => by walk_at "m")) (by intro _; walk_at "r") (.head _) mz1 ho (by decide +kernel) rfl (by walk_at "m") (zbM (fun p hp => .tail _ (.tail _ hp)) hrs (fun q hq => hq) hbig.2.1) (zdA (fun p hp => .tail _ (.tail _ hp)) hrs) (by rwa [zdG]; exact zm5 _ hl9) (by rwa [zdG, zgC]; walk_at "o") (by rwa [zdG, zgC]; walk_at "o") (by rwa [zly]; walk_at "o") hlong hout ⟨rfl, fun q hq => (nomatch hq)⟩ (fun i p op done hp hJ => ?_) (fun op done hJ => ?_) (fun x => x.elim))⟩
 ·refine xA hJ fun yq143 hd => ?_
  clear hJ
  subst yq143
  refine zhT (ziz hbig.1 hbig.2.1 hkeys hbig.2.2 (hout p (List.mem_of_getElem? hp)) hd) fun I n0 b1 b2 b3 b4 => ?_
  exact (zd0 I n0 b1 b2 b3 b4)
 walk_at "g"
 refine zaK ?_
 walk_at "s"
 refine zai ?_
 walk_at "s"
 refine zah Fo (by walk_at "m") (zaO (n := "list") (kg hK 219) zjq (by decide)) ?_
 walk_at "s"
 refine zah Fo (by walk_at "m") (zaO (n := "range") (kg hK 130) zbz (by decide)) ?_
 walk_at "s"
 refine zah Fo (by walk_at "m") (za6 (n := "len") (kg hK 117) (by decide +kernel) (by decide)) ?_
 walk_at "s"
 refine ⟨zap, zit (xs := rows.map zax) (by walk_at "m") (by rwa [List.length_map]; walk_at "o") ?_⟩
 walk_at "s"
 rwa [List.length_map]
 refine ⟨zaA, zcL fun r0 tt u0 v0 => ?_⟩
 walk_at "s"
 refine ⟨zaA, zge hh2 List.mem_cons_self (by walk_at "o") fun pl => ?_⟩
 walk_at "s"
 refine zai ?_
 refine zd9 (fun _ _ x => x.elim) ?_ (by intro _; walk_at "r")
 refine znu (Φ := PlQ rows.length fun pa xs a2 b2 => zbL pa src sh du ra L c0 w xs a2 b2 [] [] rows (.ref pl) none none none (zfQ w wd nd d0 d1 d2 d3 d4 d5 d6 d7 lk lp lz rs ((741, zaa.raw (tabObj ps1)) :: l))) ?_ ?_
 ·walk_at "s"
  refine zal Fo (by walk_at "m") (zad (kg hK 116)) ?_
  walk_at "s"
  refine ⟨zac (kg hK 115), zab (zcU hK (by walk_at "d") (.tail (.tail (uzt (.app uz6)))) a1p b1p b1q (by decide) (by decide) fun d a2 b2 dp dq a2p b2p b2q => ?_)⟩
  walk_at "s"
  refine zi7 ?_
  walk_at "s"
  refine zce (fun q => ?_) (fun q => ?_)
  ·walk_at "s"
   exact zmE pl (List.range rows.length) a2 b2 rfl (fun k hk => List.mem_range.mp hk) (fun k hk => List.mem_range.mpr hk) a2p b2p b2q (lz0 (Le.pick (.tail (pzt (.app pz6))) (Le.pick (.tail (pzt (.app pz2))) (Le.pick (.tail (pzt (.app pz1))) (Le.pick (.tail (pzt (.app pz1))) (Le.pick (.tail (pzt (.app pz1))) (Le.pick (.tail (pzt (.app pz1))) (Le.skip (Le.skip (Le.skip (lz0 (lz0 (lz0 (lz0 (lz0 (lz0 (Le.app (Le.skip Le.refl))))))))))))))))))
  ·refine zgQ (a := pl) (xs := (List.range rows.length).map fun (i : Nat) => AV.int (i : Int)) ?_ (by simp; walk_at "o")
   walk_at "s"
   refine (iAA rfl (.head _) (fun D' => zmE D' ((List.range rows.length).reverse) a2 b2 rfl (fun k hk => List.mem_range.mp (List.mem_reverse.mp hk)) (fun k hk => List.mem_reverse.mpr (List.mem_range.mpr hk)) a2p b2p b2q ?_))
   delta zbL
   rwa [List.map_reverse]
   exact lz0 (Le.pick (.tail (.tail (pzt (.app pz6)))) (Le.pick (.tail (.tail (pzt (.app pz2)))) (Le.pick (.tail (.tail (pzt (.app pz1)))) (Le.pick (.tail (.tail (pzt (.app pz1)))) (Le.pick (.tail (.tail (pzt (.app pz1)))) (Le.pick (.tail (.tail (pzt (.app pz1)))) (Le.skip (Le.skip (Le.skip (Le.skip (lz0 (lz0 (lz0 (lz0 (lz0 (lz0 (Le.app (Le.skip Le.refl))))))))))))))))))
 intro v l1 zq15
 refine zg8 zq15 fun pa xs a2 b2 yq144 hx1 hx2 a2p b2p b2q hle => ?_
 clear zq15
 subst yq144
 have sm := ziP hR hl9
 have hin : ∀ k, k < rows.length → (zbJ (rN rows) (nmP "T" k)).isSome = true := fun k hk => zaF.mpr (List.mem_map_of_mem (f := (·.1)) (zm7 (List.getElem?_eq_getElem hk)))
 have hNl : (rN rows).length ≤ 1000 := by unfold rN; rwa [List.length_map, List.length_zipIdx, List.length_map]; walk_at "o"
 have hsub : ∀ q ∈ rN rows, q ∈ rW rows := fun q hq => List.mem_append_right _ hq
 refine ⟨xs.map fun (i : Nat) => AV.int (i : Int), _, fun i l' => ∃ es due kv pv tv, zaQ (zbJ (rN rows)) (rσ rows) es ∧ zaQ (zbJ (rN rows)) (rσ rows) due ∧ (∀ (j k : Nat), j < i → xs[j]? = some k → (rσ rows (nmP "T" k)).isSome = true → nmP "T" k ∈ es.map (·.1) ∧ nmP "T" k ∈ due.map (·.1)) ∧
  l' = zbL pa src sh du ra L c0 w xs a2 b2 es due rows (.ref pl) kv pv tv (zfQ w wd nd d0 d1 d2 d3 d4 d5 d6 d7 lk lp lz rs ((741, zaa.raw (tabObj ps1)) :: l)), _, fun _ => True, zdn hle (zbx hh2 (hle.mem _ (.head _))), trivial, ⟨([]), ([]), none, none, none, (fun p v hm => (nomatch hm)), (fun p v hm => (nomatch hm)), (fun j k hj => absurd hj (Nat.not_lt_zero _)), rfl⟩, ?_, ?_, ?_⟩
 ·intro i l' zq16
  revert l'
  refine zdE fun es due kv pv tv _ _ _ => ?_
  exact .head _
 ·intro i y ls l' hy zq17
  revert l'
  refine zdE fun es due kv pv tv hes hdue hall => ?_
  rw [List.getElem?_map] at hy
  cases hxk : xs[i]? with
  | none => rw [hxk] at hy; cases hy
  | some k =>
   rw [hxk] at hy
   cases hy
   have hk : k < rows.length := hx1 k (List.mem_of_getElem? hxk)
   obtain ⟨r, hrk⟩ : ∃ r, rows[k]? = some r := ⟨_, List.getElem?_eq_getElem hk⟩
   have hso := zlq hl9 hrk
   have hnl : (Str.ofString (toString (k : Int))).length ≤ 10 := zch (by walk_at "o") (by walk_at "o")
   delta zbL
   walk_at "s"
   refine zai ?_
   refine zav hh2 (za1 Fo.kind (Fo.loc _ (by walk_at "m")) (Fo.loc _ (by walk_at "m")) (by walk_at "r") (by decide) (by walk_at "r") (by walk_at "r") (by walk_at "r") (by walk_at "r")) ?_
   walk_at "s"
   refine zah Fo (by walk_at "m") (zaO (n := "str") (kg hK 127) zbK (by decide)) ?_
   walk_at "s"
   refine ⟨zaA, zbh (zbf (by walk_at "o") (by walk_at "o")) ?_⟩
   walk_at "s"
   refine zaR (by have e : (Str.ofString "m.T").length = 3 := (by decide +kernel); walk_at "o") ?_
   rwa [mT]
   walk_at "s"
   refine zda (xs := rows.map zax) (x := zax r) (by walk_at "m") (by omega) (by omega) (by rwa [Int.toNat_natCast, List.getElem?_map, hrk]; rfl) ?_ (by intro _ _; walk_at "r")
   walk_at "s"
   show zjw _ _ _ _ (.tup [zaC r.T, zaT r.o, .bool r.b]) _ _ _ _
   walk_at "s"
   refine ⟨_, rfl, rfl, ?_⟩
   show Sr _ _ _ [_, _] [_, _] _ _ _
   walk_at "s"
   refine zai ?_
   walk_at "s"
   refine zal Fo (by walk_at "m") (zad (kg hK 206)) ?_
   walk_at "s"
   refine ⟨zac (kg hK 207), zab (zbH (Le.pick (.app pz2) Le.refl) (zer hK (by walk_at "d") hh2 (by walk_at "d") hfr2 (FrL.cons Fo.kind hf (by walk_at "m") (F.le fun p hp => by walk_at "m")) sm.1 (zbM (fun p hp => List.mem_append_right _ (.tail _ (.tail _ (.tail _ (.tail _ (.tail _ (.tail _ hp))))))) hrs hsub sm.2.1) (hin k hk) hes (zb9 hNl) fun es1 e1 e2 e3 => ?_))⟩
   rwa [hso]
   have hos := zem r.o
   walk_at "s"
   refine zcy hos.2.1 hos.2.1 (by show A.units + 3 + _ + _ < _; walk_at "o") ?_
   rwa [hos.1]
   walk_at "s"
   refine zal Fo (by walk_at "m") (zad (kg hK 206)) ?_
   walk_at "s"
   intro Z1
   walk_at "s"
   refine ⟨zac (kg hK 207), zab (zer hK (by walk_at "d") hh2 (by walk_at "d") hfr2 (FrL.cons Fo.kind hf (by walk_at "m") (F.le fun p hp => by walk_at "m")) sm.1 (zbM (fun p hp => .tail _ (List.mem_append_right _ (.tail _ (.tail _ (.tail _ (.tail _ (.tail _ (.tail _ hp)))))))) hrs hsub sm.2.1) (hin k hk) (fun p v hm => (nomatch hm)) (zb9 hNl) fun es0 f1 f2 f3 => ?_)⟩
   rwa [hso]
   walk_at "s"
   refine zcy hos.2.1 hos.2.1 (by show A.units + 3 + _ + _ < _; walk_at "o") ?_
   rwa [hos.1]
   walk_at "s"
   refine zai ?_
   walk_at "s"
   refine zaK ?_
   have hfin : ∀ (due' : List (Str × AV)) (l3 : Led), zaQ (zbJ (rN rows)) (rσ rows) due' → zbC due due' → ((rσ rows (nmP "T" k)).isSome = true → nmP "T" k ∈ due'.map (·.1)) → (l3 = zbL pa src sh du ra L c0 w xs a2 b2 es1 due' rows (.ref pl) (some (.int k)) (some (.str (nmP "T" k))) (some (zaT r.o)) (zfQ w wd nd d0 d1 d2 d3 d4 d5 d6 d7 lk lp lz rs ((741, zaa.raw (tabObj ps1)) :: l))) → ∃ es due kv pv tv, zaQ (zbJ (rN rows)) (rσ rows) es ∧ zaQ (zbJ (rN rows)) (rσ rows) due ∧ (∀ (j k : Nat), j < i + 1 → xs[j]? = some k → (rσ rows (nmP "T" k)).isSome = true → nmP "T" k ∈ es.map (·.1) ∧ nmP "T" k ∈ due.map (·.1)) ∧
     l3 = zbL pa src sh du ra L c0 w xs a2 b2 es due rows (.ref pl) kv pv tv (zfQ w wd nd d0 d1 d2 d3 d4 d5 d6 d7 lk lp lz rs ((741, zaa.raw (tabObj ps1)) :: l)) := by
    intro due' l3 g1 g2 g3 g4
    refine ⟨es1, due', _, _, _, e1, g1, (fun j k' hj hjk hs => ?_), g4⟩
    by_cases hji : j < i
    ·have := hall j k' hji hjk hs
     exact ⟨e2 _ this.1, g2 _ this.2⟩
    ·have hj2 : j = i := by walk_at "o"
     subst hj2
     rw [hxk] at hjk
     cases hjk
     exact ⟨e3 hs, g3 hs⟩
   cases ho' : r.o with
   | none =>
    walk_at "s"
    refine ⟨zbL pa src sh du ra L c0 w xs a2 b2 es1 due rows (.ref pl) (some (.int k)) (some (.str (nmP "T" k))) (some (zaT r.o)) (zfQ w wd nd d0 d1 d2 d3 d4 d5 d6 d7 lk lp lz rs ((741, zaa.raw (tabObj ps1)) :: l)), ?_, hfin due _ hdue (fun _ h => h) (fun h => by rw [hso, ho'] at h; cases h) rfl⟩
    delta zbL
    rwa [ho']
    exact Le.turn (Le.pick (.tail (.tail (.app .head))) (Le.turn (Le.pick (.tail (.tail (.app .head))) (Le.turn (lz1 (Le.skip Le.refl))))))
   | some q =>
    have hσq : rσ rows (nmP "T" k) = some q := by rwa [hso, ho']
    refine ziF (zgK hdue hσq (hin k hk)) fun due' g1 g2 g3 g4 => ?_
    have hdl : (due.map (·.1)).Nodup → due.length ≤ 10 ^ 6 := fun nd => by have := zb9 hNl due hdue nd; walk_at "o"
    have hend : ∀ l3, Le (zbL pa src sh du ra L c0 w xs a2 b2 es1 due' rows (.ref pl) (some (.int k)) (some (.str (nmP "T" k))) (some (zaT r.o)) (zfQ w wd nd d0 d1 d2 d3 d4 d5 d6 d7 lk lp lz rs ((741, zaa.raw (tabObj ps1)) :: l))) l3 → True := fun _ _ => trivial
    rwa [show zaT (some q) = AV.tup [.int q.1, .int q.2] from rfl]
    walk_at "s"
    refine zai ?_
    walk_at "s"
    refine zb6 (es' := due') (.tail (.tail (.app (.tail (.tail .head))))) g4 hdl ?_
    walk_at "s"
    refine zai ?_
    have hturn : Le (ls ++ zbL pa src sh du ra L c0 w xs a2 b2 es1 due' rows (.ref pl) (some (.int k)) (some (.str (nmP "T" k))) (some (zaT r.o)) (zfQ w wd nd d0 d1 d2 d3 d4 d5 d6 d7 lk lp lz rs ((741, zaa.raw (tabObj ps1)) :: l))) ((Z1, zaa.dict es0) :: (sh, zaa.dict es1) :: (ls ++ (pa, zaa.list (xs.map fun (i : Nat) => AV.int (i : Int))) :: (src, zaa.list [.int a2, .int b2]) :: (du, zaa.dict due') :: (ra, zaa.list (rows.map zax)) ::
  (L, zaa.ns [("source", some (.ref src)), ("rows", some (.ref ra)), ("shared", some (.ref sh)), ("due", some (.ref du)), ("places", some (.ref pl)), ("k", some (.int k)), ("path", some (.str (nmP "T" k))), ("told", some (.tup [.int q.1, .int q.2]))]) :: (c0, zaa.cell (some (.ref w))) :: zfQ w wd nd d0 d1 d2 d3 d4 d5 d6 d7 lk lp lz rs ((741, zaa.raw (tabObj ps1)) :: l))) := by
     delta zbL
     rwa [ho']
     exact Le.turn (Le.pick (.tail (.tail (.app .head))) (Le.turn (Le.pick (.tail (.tail (.app .head))) (Le.turn (lz1 (Le.skip Le.refl))))))
    have hdone := hfin due' _ g1 g2 (fun _ => g3) rfl
    walk_at "s"
    by_cases h40 : q.1 ≤ 40
    ·rwa [decide_eq_true h40]
     walk_at "s"
     refine zcq ?_ (by intro _; walk_at "r")
     walk_at "s"
     refine zda (xs := rows.map zax) (x := zax r) (by walk_at "m") (by omega) (by omega) (by rwa [Int.toNat_natCast, List.getElem?_map, hrk]; rfl) ?_ (by intro _ _; walk_at "r")
     walk_at "s"
     show zjw _ _ _ _ (.tup [zaC r.T, zaT r.o, .bool r.b]) _ _ _ _
     walk_at "s"
     cases hb : r.b with
     | false =>
      walk_at "s"
      exact ⟨_, hturn, hdone⟩
     | true =>
      walk_at "s"
      refine zal Fo (by walk_at "m") (zad (kg hK 211)) ?_
      walk_at "s"
      refine zal Fo (by walk_at "m") (zad (kg hK 214)) ?_
      walk_at "s"
      have hqb := zes (T := .named (nmP "T" k)) sm.1 sm.2.1 (hin k hk) hσq
      refine ⟨zac (kg hK 215), zab (zmG (T := .named (nmP "T" k)) (q := q) (β := rβ rows) hK sm.1 sm.2.2 60 (by show A.depth + 1 + 2 * 60 + 10 < _; walk_at "o") hh2 (by show A.units + 3 + 10 * 60 + 80 < _; walk_at "o") (zbM (fun p hp => .tail _ (.tail _ (List.mem_append_right _ (.tail _ (.tail _ (.tail _ (.tail _ (.tail _ (.tail _ hp))))))))) hrs hsub sm.2.1) (hin k hk) hσq (by walk_at "o") h40 (by show rβ rows _ = _; rwa [zlr hl9 hrk, hb]) fun V hV => ?_)⟩
      walk_at "s"
      refine ⟨zac (kg hK 212), zab (zjl hK 60 (by show A.depth + 1 + 60 + 10 < _; walk_at "o") hh2 (by show A.units + 3 + 10 * 60 + 60 < _; walk_at "o") hV ?_)⟩
      walk_at "s"
      have hos2 := zem (some q)
      refine zcy (b := zaT (some q)) hos2.2.1 hos2.2.1 (by show A.units + 3 + _ + _ < _; walk_at "o") ?_
      rwa [hos2.1]
      walk_at "s"
      exact ⟨_, hturn, hdone⟩
    ·rwa [decide_eq_false h40]
     walk_at "s"
     exact ⟨_, hturn, hdone⟩
 intro l' zq18
 revert l'
 refine zdE fun es due kv pv tv hes hdue hall => ?_
 rw [List.length_map] at hall
 delta zbL
 walk_at "s"
 refine zai ?_
 walk_at "s"
 refine zi6 (by walk_at "m") (by walk_at "m") (by walk_at "d") (fun nd1 nd2 => ?_) ?_
 ·have hke : ∀ p ∈ es.map (·.1), p ∈ due.map (·.1) := fun p hp => by
   refine xEA (List.mem_map.mp hp) fun yq148 hm yq149 => ?_
   obtain ⟨p', v⟩ := yq148
   subst yq149
   refine zdx (hes _ _ hm) fun q _ hq hs => ?_
   refine xE (Option.isSome_iff_exists.mp hs) fun T hT => ?_
   refine zbS (zh7 (zck hT)) fun k r hr' e _ => ?_
   dsimp only at e hq ⊢
   subst e
   have hkl := (List.getElem?_eq_some_iff.mp hr').1
   refine xE (List.getElem?_of_mem (hx2 k hkl)) fun j hj => ?_
   exact (hall j k (List.getElem?_eq_some_iff.mp hj).1 hj (by rwa [hq]; rfl)).2
  have hkd : ∀ p ∈ due.map (·.1), p ∈ es.map (·.1) := fun p hp => by
   refine xEA (List.mem_map.mp hp) fun yq150 hm yq151 => ?_
   obtain ⟨p', v⟩ := yq150
   subst yq151
   refine zdx (hdue _ _ hm) fun q _ hq hs => ?_
   refine xE (Option.isSome_iff_exists.mp hs) fun T hT => ?_
   refine zbS (zh7 (zck hT)) fun k r hr' e _ => ?_
   dsimp only at e hq ⊢
   subst e
   have hkl := (List.getElem?_eq_some_iff.mp hr').1
   refine xE (List.getElem?_of_mem (hx2 k hkl)) fun j hj => ?_
   exact (hall j k (List.getElem?_eq_some_iff.mp hj).1 hj (by rwa [hq]; rfl)).1
  have l1 := zbn nd1 hke
  have l2 := zbn nd2 hkd
  rw [List.length_map, List.length_map] at l1 l2
  refine ⟨by walk_at "o", fun p v hm => ?_⟩
  refine zdx (hes p v hm) fun q yq152 hq _ => ?_
  subst yq152
  refine xEA (List.mem_map.mp (hke p (List.mem_map_of_mem (f := (·.1)) hm))) fun yq153 hm' e => ?_
  obtain ⟨p', v'⟩ := yq153
  dsimp only at e
  subst e
  refine zdx (hdue _ _ hm') fun q' yq154 hq' _ => ?_
  subst yq154
  rw [hq] at hq'
  cases hq'
  refine ⟨_, hm', rfl, rfl, ((zem (some q)).1), (by show 1 ≤ 2; walk_at "o"), (by show 1 ≤ 2; walk_at "o")⟩
 walk_at "s"
 exact ⟨_, Le.skip (lz0 (Le.skip (Le.skip (Le.skip (Le.skip (Le.skip (Le.skip (Le.skip (Le.skip (Le.skip (Le.skip (Le.skip (Le.drop Le.refl))))))))))))), h a2 b2 ps1 a2p b2p b2q⟩
noncomputable abbrev zfu (n e o : AV) : List (Str × AV) := [("name", n), ("entry", e), ("spot", .int 0), ("owner", o), ("is_checked", .bool false), ("is_used", .bool false)]
theorem zmT {B : zan} {A : Around} {l : Led} {Ψ : XQ} {Φ : EQ} (hK : KF B.K) (hr : A.depth + 2 < recursionLimit) {n e o : AV}
  (h : ∀ x d, Φ (.ref x) ((x, zaa.inst 514 d) :: (d, zaa.dict (zfu n e o)) :: l)) : Fn B A (.ref 514) [n, e, .int 0, o, .bool false] l Φ Ψ := by
 refine zcE ((kg hK 220)) ((kg hK 221)) ((kg hK 222)) fun A' x d a1 a2 a3 a4 => ?_
 refine zeF hK (by walk_at "d") fun L e hf hc Fo => ?_
 show Ex _ _ _ _ (_ :: _) _ _
 have pc : zaj B.K 514 = true := (kg hK 224)
 have ta : ∀ x ∈ (["name", "entry", "spot", "owner", "is_checked", "is_used"] : List Str), takerIn B.K 514 x = some none := (kg hK 241)
 walk_at "g"
 refine zam (by walk_at "m") (.tail (.tail .head)) pc (ta _ (by walk_at "m")) (fun rk nd r => zae rk (by simp) r) (by simp) ?_
 walk_at "g"
 refine zam (by walk_at "m") (.tail (.tail .head)) pc (ta _ (by walk_at "m")) (fun rk nd r => zae rk (zak ["name"] rfl (by decide)) r) (by simp) ?_
 walk_at "g"
 refine zam (by walk_at "m") (.tail (.tail .head)) pc (ta _ (by walk_at "m")) (fun rk nd r => zae rk (zak ["name", "entry"] rfl (by decide)) r) (by simp) ?_
 walk_at "g"
 refine zam (by walk_at "m") (.tail (.tail .head)) pc (ta _ (by walk_at "m")) (fun rk nd r => zae rk (zak ["name", "entry", "spot"] rfl (by decide)) r) (by simp) ?_
 walk_at "g"
 refine zam (by walk_at "m") (.tail (.tail .head)) pc (ta _ (by walk_at "m")) (fun rk nd r => zae rk (zak ["name", "entry", "spot", "owner"] rfl (by decide)) r) (by simp) ?_
 walk_at "g"
 refine zam (by walk_at "m") (.tail (.tail .head)) pc (ta _ (by walk_at "m")) (fun rk nd r => zae rk (zak ["name", "entry", "spot", "owner", "is_checked"] rfl (by decide)) r) (by simp) ?_
 walk_at "g"
 exact ⟨_, Le.skip Le.refl, rfl, h x d⟩
structure zk7 where
 n : Str
 e : AV
 x : Addr
 d : Addr
noncomputable def zcM (us : List zk7) : Led := us.flatMap fun r => [(r.x, zaa.inst 514 r.d), (r.d, zaa.dict (zfu (.str r.n) r.e .none))]
noncomputable def zdC (us : List zk7) : List (Str × AV) := us.map fun r => (r.n, .ref r.x)
noncomputable abbrev zdB (us : List zk7) : List (Str × AV) := us.map fun r => (r.n, r.e)
theorem zfq (us : List zk7) : (zdC us).map (·.1) = (zdB us).map (·.1) := by delta zdC; rwa [List.map_map, List.map_map]; rfl
theorem ziK (a b : List zk7) : zcM (a ++ b) = zcM a ++ zcM b := by delta zcM; rwa [List.flatMap_append]
noncomputable abbrev zcW (s d rd : Addr) (o : AV) (us : List zk7) (l : Led) : Led := (s, zaa.inst 587 d) :: (d, zaa.dict [("outer", o), ("owner", .none), ("rows", .ref rd)]) :: (rd, zaa.dict (zdC us)) :: (zcM us ++ l)
theorem zh3 {B : zan} {A : Around} {l : Led} {Ψ : XQ} {Φ : EQ} (hK : KF B.K) (hr : A.depth + 2 < recursionLimit) {o : AV}
  (h : ∀ s d rd, Φ (.ref s) (zcW s d rd o [] l)) : Fn B A (.ref 587) [o] l Φ Ψ := by
 refine zcE ((kg hK 225)) ((kg hK 226)) ((kg hK 227)) fun A' x d a1 a2 a3 a4 => ?_
 refine zf1 hK (by walk_at "d") fun L e hf hc Fo => ?_
 show Ex _ _ _ _ (_ :: _) _ _
 have pc : zaj B.K 587 = true := (kg hK 229)
 have ta : ∀ x ∈ (["outer", "owner", "rows"] : List Str), takerIn B.K 587 x = some none := (kg hK 243)
 walk_at "g"
 refine zam (by walk_at "m") (.tail (.tail .head)) pc (ta _ (by walk_at "m")) (fun rk nd r => zae rk (by simp) r) (by simp) ?_
 walk_at "g"
 refine zam (by walk_at "m") (.tail (.tail .head)) pc (ta _ (by walk_at "m")) (fun rk nd r => zae rk (zak ["outer"] rfl (by decide)) r) (by simp) ?_
 walk_at "g"
 intro rd
 walk_at "g"
 refine zam (by walk_at "m") (.tail (.tail (.tail .head))) pc (ta _ (by walk_at "m")) (fun rk nd r => zae rk (zak ["outer", "owner"] rfl (by decide)) r) (by simp) ?_
 walk_at "g"
 exact ⟨_, lz2 (lz2 (lz0 (Le.skip Le.refl))), rfl, h x d rd⟩
theorem zjk {B : zan} {A : Around} {l : Led} {Ψ : XQ} {Φ : EQ} (hK : KF B.K) (hr : A.depth + 4 < recursionLimit) {s d rd : Addr} {us : List zk7} {n : Str} {en : AV} (hn : (n == ("_" : Str)) = false) (hnew : n ∉ (zdB us).map (·.1)) (hlen : us.length ≤ 1000)
  (h : ∀ us', zdB us' = zdB us ++ [(n, en)] → Φ .none (zcW s d rd .none us' l)) : Fn B A (.ref 541) [.ref s, .str n, en, .int 0] (zcW s d rd .none us l) Φ Ψ := by
 refine zeE hK (by walk_at "d") fun L e hf hc Fo => ?_
 show Ex _ _ _ _ (_ :: _) _ _
 have pc : zaj B.K 587 = true := (kg hK 229)
 have fi : ∀ x ∈ (["outer", "owner", "rows"] : List Str), findIn B.K (.ref 587) x = some none := (kg hK 244)
 walk_at "g"
 refine zat ?_
 rwa [hn]
 walk_at "g"
 refine zaq (by walk_at "m") (by walk_at "m") (by walk_at "m") ?_ pc (fi _ (by walk_at "m"))
 refine zb8 (by walk_at "m") ?_
 have hnone : (dictAt (zdC us) n).isSome = false := by
  cases hd : dictAt (zdC us) n with
  | none => rfl
  | some v => exact absurd (by have := List.mem_map_of_mem (f := (·.1)) (ze0 hd); rw [zfq] at this; exact this) hnew
 rwa [hnone]
 walk_at "g"
 refine zal Fo (by walk_at "m") (zad (kg hK 230)) ?_
 walk_at "g"
 refine zaq (by walk_at "m") (by walk_at "m") (by walk_at "m") ?_ pc (fi _ (by walk_at "m"))
 walk_at "g"
 refine ⟨zac (kg hK 223), zab (zmT hK (by walk_at "d") fun x xd => ?_)⟩
 walk_at "g"
 refine zaq (by walk_at "m") (by walk_at "m") (by walk_at "m") ?_ pc (fi _ (by walk_at "m"))
 walk_at "g"
 refine zb6 (es' := zdC us ++ [(n, .ref x)]) (.tail (.tail (.tail (.tail (.tail .head))))) (fun rk nd r => zae rk (by rwa [zfq]; exact hnew) r) (fun _ => by delta zdC; rwa [List.length_map]; walk_at "o") ?_
 walk_at "g"
 have e1 : zdC (us ++ [⟨n, en, x, xd⟩]) = zdC us ++ [(n, .ref x)] := by delta zdC; rwa [List.map_append]; rfl
 refine ⟨zcW s d rd .none (us ++ [⟨n, en, x, xd⟩]) l, ?_, h _ (by rwa [zdB, List.map_append]; rfl)⟩
 have key := zmr (a := (x, zaa.inst 514 xd)) (b := (xd, zaa.dict (zfu (.str n) en .none))) (z := (L, zaa.ns [("self", some (.ref s)), ("name", some (.str n)), ("entry", some en), ("spot", some (.int 0)), ("is_checked", some (.bool false))])) (P := (s, zaa.inst 587 d) :: (d, zaa.dict [("outer", .none), ("owner", .none), ("rows", .ref rd)]) :: (rd, zaa.dict (zdC us ++ [(n, .ref x)])) :: zcM us) (Q := l)
 show Le (_ :: _ :: (rd, zaa.dict (zdC (us ++ [_]))) :: (zcM (us ++ [_]) ++ l)) _
 rwa [ziK, e1, List.append_assoc]
 exact key
theorem zf8 {P Q R : Led} : Le (P ++ (Q ++ R)) (Q ++ (P ++ R)) := ⟨[], by rwa [List.append_nil]; exact List.perm_append_comm_assoc P Q R⟩
noncomputable abbrev zhw (k : Str) : AV := .tup [.str "type", .tup [.str "int", .str k]]
noncomputable abbrev zri (k : Str) : AV := .tup [.str "builtin", .str k]
noncomputable def zgu : List (Str × AV) := zdO.map (fun k => (k, zhw k)) ++ ([("byte", zhw "uint8"), ("rune", zhw "int32"), ("bool", .tup [.str "type", .tup [.str "bool"]]), ("string", .tup [.str "type", .tup [.str "string"]]), ("error", .tup [.str "type", .tup [.str "named", .str "error"]]), ("any", .tup [.str "type", .tup [.str "interface", .tup []]]),
 ("true", .tup [.str "const", .tup [.str "untyped", .str "bool"], .bool true]), ("false", .tup [.str "const", .tup [.str "untyped", .str "bool"], .bool false]), ("iota", .tup [.str "iota"]), ("nil", .tup [.str "nil"])] : List (Str × AV)) ++ zl9.map fun k => (k, zri k)
theorem zoc : (zgu.map (·.1)).Nodup := by decide +kernel
theorem zjI : ∀ q ∈ zgu, (q.1 == ("_" : Str)) = false := by
 intro q hq
 have h : (zgu.map (·.1)).all (fun x => !(x == ("_" : Str))) = true := by decide +kernel
 have := List.all_eq_true.mp h q.1 (List.mem_map_of_mem (f := (·.1)) hq)
 simpa using this
theorem zjJ : zgu.length = 33 := by decide +kernel
theorem zco {B : zan} {A : Around} {l : Led} {Ψ : XQ} {Φ : EQ} (hK : KF B.K) (hr : A.depth + 4 < recursionLimit) {s d rd : Addr} {us : List zk7} {n : Str} {en : AV} {j : Nat} (hj : zgu[j]? = some (n, en)) (hus : zdB us = zgu.take j)
  (h : ∀ us', zdB us' = zgu.take (j + 1) → Φ .none (zcW s d rd .none us' l)) : Fn B A (.ref 541) [.ref s, .str n, en, .int 0] (zcW s d rd .none us l) Φ Ψ := by
 refine zjk hK hr (zjI _ (List.mem_of_getElem? hj)) ?_ ?_ fun us' e => h us' (by (rewrite [e, hus, zaM hj]; with_reducible rfl))
 ·rwa [hus]
  have hs : ((zgu.take (j + 1)).map (·.1)).Nodup := ((List.take_sublist _ _).map _).nodup zoc
  rw [zaM hj, List.map_append, List.nodup_append] at hs
  exact fun q => hs.2.2 _ q _ (.head _) rfl
 ·have := congrArg List.length hus
  rw [List.length_map, List.length_take, zjJ] at this
  walk_at "o"
set_option maxHeartbeats 4000000 in
theorem zhd {B : zan} {A : Around} {l : Led} {Ψ : XQ} {Φ : EQ} (hK : KF B.K) (hr : A.depth + 8 < recursionLimit) (hh : A.handled = none)
  (h : ∀ s d rd us, zdB us = zgu → Φ (.ref s) (zcW s d rd .none us l)) : Fn B A (.ref 632) [] l Φ Ψ := by
 refine ziT hK (by walk_at "d") fun L e hf hc Fo => ?_
 show Ex _ _ _ _ (_ :: _) _ _
 have hh2 : (A.deeper e).handled = none := hh
 have pc : zaj B.K 587 = true := (kg hK 229)
 walk_at "g"
 refine zal Fo (by walk_at "m") (zad (kg hK 231)) ?_
 walk_at "g"
 refine ⟨zac (kg hK 228), zab (zh3 hK (by walk_at "d") fun s d rd => ?_)⟩
 walk_at "s"
 refine zai ?_
 refine zd9 (fun _ _ x => x.elim) ?_ (by intro _; walk_at "r")
 walk_at "s"
 refine zal Fo (by walk_at "m") (zbX (kg hK 245)) ?_
 refine ⟨zdO.map AV.str, _, fun i l' => ∃ us kv, zdB us = zgu.take i ∧ l' = zcW s d rd .none us ((L, zaa.ns [("found", some (.ref s)), ("kind", kv), ("name", none)]) :: l), _, fun _ => True, zdl hh2, trivial, (zk4 ([]) none rfl rfl), fun _ _ _ => trivial, ?_, ?_⟩
 ·intro i y ls l' hy zq19
  revert l'
  refine zhi fun us kv hus => ?_
  rw [List.getElem?_map] at hy
  cases hk : zdO[i]? with
  | none => rw [hk] at hy; cases hy
  | some k =>
   rw [hk] at hy
   cases hy
   have hi : i < 10 := (List.getElem?_eq_some_iff.mp hk).1
   have hj : zgu[i]? = some (k, zhw k) := by
    delta zgu
    rwa [List.append_assoc, List.getElem?_append_left (by rwa [List.length_map]; exact hi), List.getElem?_map, hk]; rfl
   walk_at "s"
   refine zai ?_
   walk_at "s"
   refine zao (C := 587) (d := d) (by walk_at "m") (by walk_at "m") ((kg hK 232)) ((kg hK 233)) pc (zak ["outer", "owner", "rows"] rfl (by decide)) ?_
   walk_at "s"
   refine ⟨zac (kg hK 234), zab (zbH (Le.pick (.app .head) (Le.pick (.app .head) (Le.pick (.app .head) zf8))) (zco hK (by walk_at "d") hj hus fun us' hus' => ?_))⟩
   walk_at "s"
   exact ⟨zcW s d rd .none us' ((L, zaa.ns [("found", some (.ref s)), ("kind", some (.str k)), ("name", none)]) :: l), Le.turn (lz0 (Le.turn (lz0 (Le.turn (lz0 zf8))))), us', _, hus', rfl⟩
 intro l' zq20
 revert l'
 refine zhi fun us kv hus => ?_
 change zdB us = zgu.take 10 at hus
 walk_at "s"
 refine zai ?_
 walk_at "s"
 refine zao (C := 587) (d := d) (by walk_at "m") (by walk_at "m") ((kg hK 232)) ((kg hK 233)) pc (zak ["outer", "owner", "rows"] rfl (by decide)) ?_
 walk_at "s"
 refine ⟨zac (kg hK 234), zab (zco (us := us) (j := 10) hK (by walk_at "d") (by rfl) hus fun us1 hus1 => ?_)⟩
 walk_at "s"
 refine zai ?_
 walk_at "s"
 refine zao (C := 587) (d := d) (by walk_at "m") (by walk_at "m") ((kg hK 232)) ((kg hK 233)) pc (zak ["outer", "owner", "rows"] rfl (by decide)) ?_
 walk_at "s"
 refine ⟨zac (kg hK 234), zab (zco (us := us1) (j := 11) hK (by walk_at "d") (by rfl) hus1 fun us2 hus2 => ?_)⟩
 walk_at "s"
 refine zai ?_
 walk_at "s"
 refine zao (C := 587) (d := d) (by walk_at "m") (by walk_at "m") ((kg hK 232)) ((kg hK 233)) pc (zak ["outer", "owner", "rows"] rfl (by decide)) ?_
 walk_at "s"
 refine ⟨zac (kg hK 234), zab (zco (us := us2) (j := 12) hK (by walk_at "d") (by rfl) hus2 fun us3 hus3 => ?_)⟩
 walk_at "s"
 refine zai ?_
 walk_at "s"
 refine zao (C := 587) (d := d) (by walk_at "m") (by walk_at "m") ((kg hK 232)) ((kg hK 233)) pc (zak ["outer", "owner", "rows"] rfl (by decide)) ?_
 walk_at "s"
 refine ⟨zac (kg hK 234), zab (zco (us := us3) (j := 13) hK (by walk_at "d") (by rfl) hus3 fun us4 hus4 => ?_)⟩
 walk_at "s"
 refine zai ?_
 walk_at "s"
 refine zao (C := 587) (d := d) (by walk_at "m") (by walk_at "m") ((kg hK 232)) ((kg hK 233)) pc (zak ["outer", "owner", "rows"] rfl (by decide)) ?_
 walk_at "s"
 refine zal Fo (by walk_at "m") (zbX (kg hK 247)) ?_
 walk_at "s"
 refine ⟨zac (kg hK 234), zab (zco (us := us4) (j := 14) hK (by walk_at "d") (by rfl) hus4 fun us5 hus5 => ?_)⟩
 walk_at "s"
 refine zai ?_
 walk_at "s"
 refine zao (C := 587) (d := d) (by walk_at "m") (by walk_at "m") ((kg hK 232)) ((kg hK 233)) pc (zak ["outer", "owner", "rows"] rfl (by decide)) ?_
 walk_at "s"
 refine ⟨zac (kg hK 234), zab (zco (us := us5) (j := 15) hK (by walk_at "d") (by rfl) hus5 fun us6 hus6 => ?_)⟩
 walk_at "s"
 refine zai ?_
 walk_at "s"
 refine zao (C := 587) (d := d) (by walk_at "m") (by walk_at "m") ((kg hK 232)) ((kg hK 233)) pc (zak ["outer", "owner", "rows"] rfl (by decide)) ?_
 walk_at "s"
 refine ⟨zac (kg hK 234), zab (zco (us := us6) (j := 16) hK (by walk_at "d") (by rfl) hus6 fun us7 hus7 => ?_)⟩
 walk_at "s"
 refine zai ?_
 walk_at "s"
 refine zao (C := 587) (d := d) (by walk_at "m") (by walk_at "m") ((kg hK 232)) ((kg hK 233)) pc (zak ["outer", "owner", "rows"] rfl (by decide)) ?_
 walk_at "s"
 refine ⟨zac (kg hK 234), zab (zco (us := us7) (j := 17) hK (by walk_at "d") (by rfl) hus7 fun us8 hus8 => ?_)⟩
 walk_at "s"
 refine zai ?_
 walk_at "s"
 refine zao (C := 587) (d := d) (by walk_at "m") (by walk_at "m") ((kg hK 232)) ((kg hK 233)) pc (zak ["outer", "owner", "rows"] rfl (by decide)) ?_
 walk_at "s"
 refine ⟨zac (kg hK 234), zab (zco (us := us8) (j := 18) hK (by walk_at "d") (by rfl) hus8 fun us9 hus9 => ?_)⟩
 walk_at "s"
 refine zai ?_
 walk_at "s"
 refine zao (C := 587) (d := d) (by walk_at "m") (by walk_at "m") ((kg hK 232)) ((kg hK 233)) pc (zak ["outer", "owner", "rows"] rfl (by decide)) ?_
 walk_at "s"
 refine ⟨zac (kg hK 234), zab (zco (us := us9) (j := 19) hK (by walk_at "d") (by rfl) hus9 fun us10 hus10 => ?_)⟩
 walk_at "s"
 refine zai ?_
 refine zd9 (fun _ _ x => x.elim) ?_ (by intro _; walk_at "r")
 walk_at "s"
 refine zal Fo (by walk_at "m") (zbX (kg hK 246)) ?_
 refine ⟨zl9.map AV.str, _, fun i l' => ∃ us nv, zdB us = zgu.take (20 + i) ∧ l' = zcW s d rd .none us ((L, zaa.ns [("found", some (.ref s)), ("kind", kv), ("name", nv)]) :: l), _, fun _ => True, zdl hh2, trivial, (zk4 us10 none hus10 rfl), fun _ _ _ => trivial, ?_, ?_⟩
 ·intro i y ls l' hy zq21
  revert l'
  refine zhi fun us nv hus => ?_
  rw [List.getElem?_map] at hy
  cases hk : zl9[i]? with
  | none => rw [hk] at hy; cases hy
  | some k =>
   rw [hk] at hy
   cases hy
   have hj : zgu[20 + i]? = some (k, zri k) := by
    delta zgu
    rwa [List.getElem?_append_right (by simp [zdO]), List.getElem?_map]
    have : (20 + i) - (zdO.map (fun k => (k, zhw k)) ++ ([("byte", zhw "uint8"), ("rune", zhw "int32"), ("bool", .tup [.str "type", .tup [.str "bool"]]), ("string", .tup [.str "type", .tup [.str "string"]]), ("error", .tup [.str "type", .tup [.str "named", .str "error"]]), ("any", .tup [.str "type", .tup [.str "interface", .tup []]]),
 ("true", .tup [.str "const", .tup [.str "untyped", .str "bool"], .bool true]), ("false", .tup [.str "const", .tup [.str "untyped", .str "bool"], .bool false]), ("iota", .tup [.str "iota"]), ("nil", .tup [.str "nil"])] : List (Str × AV))).length = i := by
     rwa [List.length_append, List.length_map]; show 20 + i - (10 + 10) = i; walk_at "o"
    rwa [this, hk]; rfl
   walk_at "s"
   refine zai ?_
   walk_at "s"
   refine zao (C := 587) (d := d) (by walk_at "m") (by walk_at "m") ((kg hK 232)) ((kg hK 233)) pc (zak ["outer", "owner", "rows"] rfl (by decide)) ?_
   walk_at "s"
   refine ⟨zac (kg hK 234), zab (zbH (Le.pick (.app .head) (Le.pick (.app .head) (Le.pick (.app .head) zf8))) (zco hK (by walk_at "d") hj hus fun us' hus' => ?_))⟩
   walk_at "s"
   exact ⟨zcW s d rd .none us' ((L, zaa.ns [("found", some (.ref s)), ("kind", kv), ("name", some (.str k))]) :: l), Le.turn (lz0 (Le.turn (lz0 (Le.turn (lz0 zf8))))), us', _, hus', rfl⟩
 intro l' zq22
 revert l'
 refine zhi fun us nv hus => ?_
 have hus2 : zdB us = zgu := by rwa [hus, List.length_map]; exact List.take_of_length_le (by rwa [zjJ]; decide)
 walk_at "g"
 refine ⟨zcW s d rd .none us l, lz0 (lz0 (lz0 (Le.app (Le.skip Le.refl)))), h s d rd us hus2⟩
inductive zcm (s2 : Addr) (n : Str) (en : AV) (l : Led) : Prop
 | mk (d2 rd2 s d rd : Addr) (us : List (Str × AV)) (x xd : Addr) (o : AV) (h1 : (s2, zaa.inst 587 d2) ∈ l) (h2 : (d2, zaa.dict [("outer", .ref s), ("owner", .none), ("rows", .ref rd2)]) ∈ l) (h3 : (rd2, zaa.dict []) ∈ l) (h4 : (s, zaa.inst 587 d) ∈ l) (h5 : (d, zaa.dict [("outer", o), ("owner", .none), ("rows", .ref rd)]) ∈ l)
  (h6 : (rd, zaa.dict us) ∈ l) (h7 : (n, AV.ref x) ∈ us) (h8 : (x, zaa.inst 514 xd) ∈ l) (h9 : (xd, zaa.dict (zfu (.str n) en .none)) ∈ l) : zcm s2 n en l
theorem zcm.up {s2 : Addr} {n : Str} {en : AV} {l l' : Led} (h : zcm s2 n en l) (k : ∀ p ∈ l, p ∈ l') : zcm s2 n en l' := by
 refine zcm.rec (fun d2 rd2 s d rd us x xd o h1 h2 h3 h4 h5 h6 h7 h8 h9 => ?_) h
 exact ⟨d2, rd2, s, d, rd, us, x, xd, o, (k _ h1), (k _ h2), (k _ h3), (k _ h4), (k _ h5), (k _ h6), h7, (k _ h8), (k _ h9)⟩
noncomputable def zpI (L s2 s : Addr) (n : Str) (l : Led) (k : Nat) (l' : Led) : Prop := (k = 1 ∧ l' = (L, zaa.ns [("self", some (.ref s2)), ("name", some (.str n)), ("here", some (.ref s2))]) :: l) ∨ (k = 0 ∧ l' = (L, zaa.ns [("self", some (.ref s2)), ("name", some (.str n)), ("here", some (.ref s))]) :: l)
theorem zlp {B : zan} {A : Around} {l : Led} {Ψ : XQ} {Φ : EQ} (hK : KF B.K) (hr : A.depth < recursionLimit) {s2 : Addr} {n : Str} {en : AV} (hS : zcm s2 n en l)
  (h : ∀ x xd, (x, zaa.inst 514 xd) ∈ l → (xd, zaa.dict (zfu (.str n) en .none)) ∈ l → Φ (.ref x) l) : Fn B A (.ref 555) [.ref s2, .str n] l Φ Ψ := by
 refine zcm.rec (fun d2 rd2 s d rd us x xd o h1 h2 h3 h4 h5 h6 h7 h8 h9 => ?_) hS
 refine zho hK hr fun L e hf hc Fo => ?_
 show Ex _ _ _ _ (_ :: _) _ _
 have pc : zaj B.K 587 = true := (kg hK 229)
 have fi : ∀ x ∈ (["outer", "owner", "rows"] : List Str), findIn B.K (.ref 587) x = some none := (kg hK 244)
 walk_at "s"
 refine zai ?_
 walk_at "s"
 refine zai ?_
 refine zdy (zpI L s2 s n l) 1 (fun _ _ x => x.elim) (.inl ⟨rfl, rfl⟩) fun k l' hI => ?_
 rcases hI with ⟨rfl, rfl⟩ | ⟨rfl, rfl⟩
 ·walk_at "s"
  refine zaK ?_
  walk_at "s"
  refine zai ?_
  walk_at "s"
  refine zaq (.tail _ h1) (.tail _ h2) (by walk_at "m") ?_ pc (fi _ (by walk_at "m"))
  refine zb8 (.tail _ h3) ?_
  rwa [show dictAt [] n = none from rfl]
  walk_at "g"
  refine zaq (.tail _ h1) (.tail _ h2) (by walk_at "m") ?_ pc (fi _ (by walk_at "m"))
  walk_at "g"
  exact ⟨0, _, Nat.zero_lt_one, Le.refl, .inr ⟨rfl, rfl⟩⟩
 ·walk_at "s"
  refine zaK ?_
  walk_at "s"
  refine zai ?_
  walk_at "s"
  refine zaq (.tail _ h4) (.tail _ h5) (by walk_at "m") ?_ pc (fi _ (by walk_at "m"))
  refine zb8 (.tail _ h6) ?_
  rwa [zc6 (List.mem_map_of_mem (f := (·.1)) h7)]
  walk_at "g"
  refine zaq (.tail _ h4) (.tail _ h5) (by walk_at "m") ?_ pc (fi _ (by walk_at "m"))
  walk_at "g"
  refine zek (.tail _ h6) h7 ?_ (by intro _ _; walk_at "r")
  walk_at "g"
  exact ⟨_, Le.skip Le.refl, h x xd h8 h9⟩
theorem znr {B : zan} {A : Around} {l : Led} {Ψ : XQ} {Φ : EQ} (hK : KF B.K) (hr : A.depth + 2 < recursionLimit) {s2 : Addr} {n : Str} {en : AV} (hS : zcm s2 n en l) (hhd : zbN en = true)
  (h : Φ en l) : Fn B A (.ref 563) [.ref s2, .str n] l Φ Ψ := by
 refine zgH hK (by walk_at "d") fun L e hf hc Fo => ?_
 show Ex _ _ _ _ (_ :: _) _ _
 refine zcm.rec (fun d2 rd2 s d rd us x xd o h1 h2 h3 h4 h5 h6 h7 h8 h9 => ?_) hS
 have pc : zaj B.K 587 = true := (kg hK 229)
 have pcr : zaj B.K 514 = true := (kg hK 224)
 have fir : ∀ x ∈ (["name", "entry", "spot", "owner", "is_checked", "is_used"] : List Str), findIn B.K (.ref 514) x = some none := (kg hK 242)
 walk_at "g"
 refine zao (C := 587) (d := d2) (.tail _ h1) (.tail _ h2) ((kg hK 235)) ((kg hK 236)) pc (zak ["outer", "owner", "rows"] rfl (by decide)) ?_
 walk_at "g"
 refine ⟨zac (kg hK 237), zab (zlp hK (by walk_at "d") (hS.up fun p hp => .tail _ hp) fun x' xd' m1 m2 => ?_)⟩
 walk_at "g"
 refine zb7 ?_
 walk_at "g"
 refine zb7 ?_
 walk_at "g"
 refine zaq (C := 514) (d := xd') (by simpa using m1) (by simpa using m2) (by walk_at "m") ?_ pcr (fir _ (by walk_at "m")) hhd
 walk_at "g"
 exact ⟨_, Le.skip Le.refl, h⟩
theorem ziO {B : zan} {A : Around} {l : Led} {Ψ : XQ} {Φ : EQ} (hK : KF B.K) (hr : A.depth < recursionLimit) {w : Addr} {s : Str} {r : List AV} (hs : (s == ("waiting" : Str)) = false)
  (h : Φ (.tup (.str s :: r)) l) : Fn B A (.ref 661) [.ref w, .tup (.str s :: r)] l Φ Ψ := by
 refine zeC hK hr fun L e hf hc Fo => ?_
 show Ex _ _ _ _ (_ :: _) _ _
 walk_at "g"
 refine zaK ?_
 walk_at "g"
 refine zat ?_
 rwa [hs]
 walk_at "g"
 exact ⟨_, Le.skip Le.refl, h⟩
theorem zjP {B : zan} {A : Around} {l : Led} {Ψ : XQ} {Φ : EQ} (hK : KF B.K) (hr : A.depth + 4 < recursionLimit) {w wd s2 : Addr} {wes : List (Str × AV)} {n : Str} {T sp : AV} (hw : (w, zaa.inst 664 wd) ∈ l) (hwd : (wd, zaa.dict wes) ∈ l) (hwk : wes.map (·.1) = zar) (hS : zcm s2 n (.tup [.str "type", T]) l)
  (h : Φ T l) : Fn B A (.ref 253) [.ref w, .ref s2, .none, .str n, sp] l Φ Ψ := by
 refine zgE hK (by walk_at "d") fun L e hf hc Fo => ?_
 show Ex _ _ _ _ (_ :: _) _ _
 have pcs : zaj B.K 587 = true := (kg hK 229)
 have pcw : zaj B.K 664 = true := (kg hK 133)
 refine zcm.rec (fun d2 rd2 s d rd us x xd o h1 h2 h3 h4 h5 h6 h7 h8 h9 => ?_) hS
 walk_at "g"
 refine zb7 ?_
 walk_at "g"
 refine zao (C := 664) (d := wd) (.tail _ hw) (.tail _ hwd) ((kg hK 248)) ((kg hK 249)) pcw (by rwa [hwk]; decide) ?_
 walk_at "g"
 refine zao (C := 587) (d := d2) (.tail _ h1) (.tail _ h2) ((kg hK 238)) ((kg hK 239)) pcs (zak ["outer", "owner", "rows"] rfl (by decide)) ?_
 walk_at "g"
 refine ⟨zac (kg hK 240), zab (znr hK (by walk_at "d") (hS.up fun p hp => .tail _ hp) rfl ?_)⟩
 walk_at "g"
 refine ⟨zac (kg hK 250), zab (ziO hK (by walk_at "d") (by decide) ?_)⟩
 walk_at "g"
 refine zaK ?_
 walk_at "g"
 refine zat ?_
 walk_at "g"
 exact ⟨_, Le.skip Le.refl, h⟩
theorem zl0 {B : zan} {A : Around} {l : Led} {Ψ : XQ} {Φ : EQ} (hK : KF B.K) (hr : A.depth < recursionLimit) (hh : A.handled = none) {x : Addr} {i : Int}
  (h : Φ (.tup [zb5, .int i]) l) : Fn B A (.ref 358) [.ref x, .tup [.str "int", .int 0, .int i]] l Φ Ψ := by
 refine zdf hK hr fun L e hf hc Fo => ?_
 show Ex _ _ _ _ (_ :: _) _ _
 have hh2 : (A.deeper e).handled = none := hh
 refine zai ?_
 refine zav hh2 (za1 Fo.kind (Fo.loc _ (by walk_at "m")) (Fo.loc _ (by walk_at "m")) (by walk_at "r") (by decide) (by walk_at "r") (by walk_at "r") (by walk_at "r") (by walk_at "r")) ?_
 walk_at "g"
 refine ⟨_, rfl, rfl, ?_⟩
 show Sr _ _ _ [_, _] [_, _] _ _ _
 walk_at "g"
 refine zat ?_
 walk_at "g"
 refine zal Fo (by walk_at "m") (zbX (kg hK 292)) ?_
 walk_at "g"
 exact ⟨_, Le.skip Le.refl, h⟩
theorem zkS {B : zan} {A : Around} {l : Led} {Ψ : XQ} {Φ : EQ} (hK : KF B.K) (hr : A.depth + 2 < recursionLimit) {w p sc io : AV}
  (h : ∀ x d, Φ (.ref x) ((x, zaa.inst 424 d) :: (d, zaa.dict [("world", w), ("package", p), ("scope", sc), ("iota", io)]) :: l)) : Fn B A (.ref 424) [w, p, sc, io] l Φ Ψ := by
 refine zcE ((kg hK 259)) ((kg hK 260)) ((kg hK 261)) fun A' x d a1 a2 a3 a4 => ?_
 refine zdg hK (by walk_at "d") fun L e hf hc Fo => ?_
 show Ex _ _ _ _ (_ :: _) _ _
 have pc : zaj B.K 424 = true := (kg hK 263)
 have ta : ∀ x ∈ (["world", "package", "scope", "iota"] : List Str), takerIn B.K 424 x = some none := (kg hK 295)
 walk_at "g"
 refine zam (by walk_at "m") (.tail (.tail .head)) pc (ta _ (by walk_at "m")) (fun rk nd r => zae rk (by simp) r) (by simp) ?_
 walk_at "g"
 refine zam (by walk_at "m") (.tail (.tail .head)) pc (ta _ (by walk_at "m")) (fun rk nd r => zae rk (zak ["world"] rfl (by decide)) r) (by simp) ?_
 walk_at "g"
 refine zam (by walk_at "m") (.tail (.tail .head)) pc (ta _ (by walk_at "m")) (fun rk nd r => zae rk (zak ["world", "package"] rfl (by decide)) r) (by simp) ?_
 walk_at "g"
 refine zam (by walk_at "m") (.tail (.tail .head)) pc (ta _ (by walk_at "m")) (fun rk nd r => zae rk (zak ["world", "package", "scope"] rfl (by decide)) r) (by simp) ?_
 walk_at "g"
 exact ⟨_, Le.skip Le.refl, rfl, h x d⟩
theorem zjm {B : zan} {A : Around} {l : Led} {Ψ : XQ} {Φ : EQ} (hK : KF B.K) (hr : A.depth + 4 < recursionLimit) (hh : A.handled = none) {w p sc : AV} {i : Int}
  (h : Φ (.tup [zb5, .int i]) l) : Fn B A (.ref 436) [w, p, sc, .tup [.str "int", .int 0, .int i]] l Φ Ψ := by
 refine zi0 hK (by walk_at "d") fun L e hf hc Fo => ?_
 show Ex _ _ _ _ (_ :: _) _ _
 have hh2 : (A.deeper e).handled = none := hh
 have pc : zaj B.K 424 = true := (kg hK 263)
 walk_at "g"
 refine zal Fo (by walk_at "m") (zad (kg hK 264)) ?_
 walk_at "g"
 refine ⟨zac (kg hK 262), zab (zkS hK (by walk_at "d") fun x d => ?_)⟩
 walk_at "g"
 refine zao (C := 424) (d := d) (by walk_at "m") (by walk_at "m") ((kg hK 265)) ((kg hK 266)) pc (zak ["world", "package", "scope", "iota"] rfl (by decide)) ?_
 walk_at "g"
 refine ⟨zac (kg hK 267), zab (zl0 hK (by walk_at "d") hh2 ?_)⟩
 walk_at "g"
 exact ⟨_, Le.skip (Le.skip (Le.skip Le.refl)), h⟩
theorem zks {B : zan} {A : Around} {l : Led} {Ψ : XQ} {Φ : EQ} (hK : KF B.K) (hr : A.depth + 8 < recursionLimit) (hh : A.handled = none) {t td f : Addr} {w s : AV} {i : Int} (ht : (t, zaa.inst 328 td) ∈ l) (htd : (td, zaa.dict [("world", w), ("scope", s), ("const_reader", .ref f)]) ∈ l) (hi : 0 ≤ i ∧ i ≤ 2 ^ 20)
  (hf2 : ∀ (A' : Around) (l1 : Led) (Φ' : EQ) (Ψ' : XQ), (∀ p ∈ l, p ∈ l1) → A'.depth ≤ A.depth + 1 → A'.handled = none → Φ' (.tup [zb5, .int i]) l1 → ze7 B (.ref f) l1 ∧ zaZ B A' (.ref f) [.tup [.str "int", .int 0, .int i]] l1 Φ' Ψ')
  (h : Φ (.int i) l) : Fn B A (.ref 299) [.ref t, .tup [.str "int", .int 0, .int i]] l Φ Ψ := by
 refine zcZ hK (by walk_at "d") fun L e hf hc Fo => ?_
 show Ex _ _ _ _ (_ :: _) _ _
 have hh2 : (A.deeper e).handled = none := hh
 have pc : zaj B.K 328 = true := (kg hK 272)
 have fi : ∀ x ∈ (["world", "scope", "const_reader"] : List Str), findIn B.K (.ref 328) x = some none := (kg hK 298)
 refine zai ?_
 refine zaL ?_ (by walk_at "r") (by walk_at "r")
 walk_at "s"
 refine zkH (C := 328) (d := td) (.tail _ ht) (.tail _ htd) (by walk_at "m") (fi _ (by walk_at "m")) pc rfl ?_
 walk_at "s"
 refine hf2 (A.deeper e) _ _ _ (fun p hp => .tail _ hp) (Nat.le_refl _) hh2 ?_
 walk_at "s"
 refine zai ?_
 walk_at "s"
 refine zcq ?_ (by intro _; walk_at "r")
 walk_at "s"
 refine zah Fo (by walk_at "m") (za6 (n := "isinstance") (kg hK 213) (by decide +kernel) (by decide)) ?_
 walk_at "s"
 refine zah Fo (by walk_at "m") (zaO (n := "bool") (kg hK 293) (by decide +kernel) (by decide)) ?_
 walk_at "s"
 refine ⟨zap, ze1 ?_⟩
 walk_at "s"
 refine zcq ?_ (by intro _; walk_at "r")
 walk_at "s"
 refine zah Fo (by walk_at "m") (za6 (n := "isinstance") (kg hK 213) (by decide +kernel) (by decide)) ?_
 walk_at "s"
 refine zah Fo (by walk_at "m") (zaO (n := "int") (kg hK 119) (by decide +kernel) (by decide)) ?_
 walk_at "s"
 refine ⟨zap, zfl ?_⟩
 walk_at "s"
 rwa [decide_eq_true hi.1, if_pos rfl]
 walk_at "s"
 refine zal Fo (by walk_at "m") (zcJ (kg hK 294)) ?_
 walk_at "s"
 rwa [decide_eq_true (show i ≤ 1048576 by walk_at "o")]
 walk_at "g"
 exact ⟨_, Le.skip Le.refl, h⟩
noncomputable abbrev zqb (w s2 f : Addr) : List (Str × AV) := [("world", .ref w), ("scope", .ref s2), ("const_reader", .ref f)]
structure Rdr (t td w wd s2 f lk lp lz : Addr) (l : Led) : Prop where
 t : (t, zaa.inst 328 td) ∈ l
 td : (td, zaa.dict (zqb w s2 f)) ∈ l
 w : (w, zaa.inst 664 wd) ∈ l
 wd : ∃ nd c0 c1 c2 c3 c4 c5 c6 c7, (wd, zaa.dict (zaJ nd c0 c1 c2 c3 c4 c5 c6 c7 (.ref lk) (.ref lp) (.ref lz))) ∈ l
 int : zcm s2 "int" (.tup [.str "type", .tup [.str "int", .str "int"]]) l
 str : zcm s2 "string" (.tup [.str "type", .tup [.str "string"]]) l
theorem Rdr.up {t td w wd s2 f lk lp lz : Addr} {l l' : Led} (h : Rdr t td w wd s2 f lk lp lz l) (k : ∀ p ∈ l, p ∈ l') : Rdr t td w wd s2 f lk lp lz l' := by
 obtain ⟨h1, h2, h3, ⟨nd, c0, c1, c2, c3, c4, c5, c6, c7, h4⟩, h5, h6⟩ := h
 exact ⟨k _ h1, k _ h2, k _ h3, ⟨nd, c0, c1, c2, c3, c4, c5, c6, c7, (k _ h4)⟩, h5.up k, h6.up k⟩
theorem zkv {B : zan} {A : Around} {r : Led} {Ψ : XQ} {Φ : EQ} (hK : KF B.K) (hr : A.depth + 2 < recursionLimit) {t td w wd s2 f lk lp lz : Addr} {ks gs : List AV} {T sp : AV} (R : Rdr t td w wd s2 f lk lp lz r) (hg : gs.length ≤ 100)
  (h : Φ T ((lz, zaa.list (gs ++ [.tup [T, sp]])) :: (lk, zaa.list ks) :: r)) : Fn B A (.ref 320) [.ref t, T, sp] ((lz, zaa.list gs) :: (lk, zaa.list ks) :: r) Φ Ψ := by
 refine zdI hK (by walk_at "d") fun L e hf hc Fo => ?_
 show Ex _ _ _ _ (_ :: _) _ _
 have pct : zaj B.K 328 = true := (kg hK 272)
 have fit : ∀ x ∈ (["world", "scope", "const_reader"] : List Str), findIn B.K (.ref 328) x = some none := (kg hK 298)
 have pcw : zaj B.K 664 = true := (kg hK 133)
 have fiw : ∀ x ∈ zar, findIn B.K (.ref 664) x = some none := (kg hK 202)
 obtain ⟨h1, h2, h3, ⟨nd, c0, c1, c2, c3, c4, c5, c6, c7, h4⟩, h5, h6⟩ := R
 walk_at "g"
 refine zaq (.tail _ (.tail _ (.tail _ h1))) (.tail _ (.tail _ (.tail _ h2))) (by walk_at "m") ?_ pct (fit _ (by walk_at "m"))
 refine zaq (.tail _ (.tail _ (.tail _ h3))) (.tail _ (.tail _ (.tail _ h4))) (by walk_at "m") ?_ pcw (fiw _ (by delta zar; walk_at "m"))
 refine zbb (by walk_at "m") ?_
 walk_at "g"
 refine ⟨zap, za3 uz1 (by walk_at "o") ?_⟩
 walk_at "g"
 exact ⟨_, Le.skip Le.refl, h⟩
theorem zjV {B : zan} (hK : KF B.K) {t td w wd s2 f lk lp lz : Addr} {A : Around} {r : Led} {Ψ : XQ} {Φ : EQ} {ks gs ks' gs' : List AV} (R : Rdr t td w wd s2 f lk lp lz r) (hr : A.depth + 6 < recursionLimit) (hh : A.handled = none) (hu : A.units + 20 < cLine) (hgs : gs'.length ≤ 100) {W T : AV}
  (hread : ∀ (A' : Around) (r' : Led) (Φ' : EQ) (Ψ' : XQ), (∀ p ∈ r, p ∈ r') → A'.depth ≤ A.depth + 1 → A'.handled = none → A'.units ≤ A.units + 3 → Φ' T ((lz, zaa.list gs') :: (lk, zaa.list ks') :: r') → Fn B A' (.ref 287) [.ref t, W] ((lz, zaa.list gs) :: (lk, zaa.list ks) :: r') Φ' Ψ')
  (h : Φ (.tup [.str "struct", .tup [.tup [.str "x", T, .bool false]]]) ((lz, zaa.list (gs' ++ [.tup [.tup [.str "struct", .tup [.tup [.str "x", T, .bool false]]], .int 4]])) :: (lk, zaa.list ks') :: r)) :
  Fn B A (.ref 313) [.ref t, .tup [.str "struct", .int 4, .tup [.tup [.str "x", W, .bool false]]]] ((lz, zaa.list gs) :: (lk, zaa.list ks) :: r) Φ Ψ := by
 refine zcY hK (by walk_at "d") fun L e hf hc Fo => ?_
 show Ex _ _ _ _ (_ :: _) _ _
 have hh2 : (A.deeper e).handled = none := hh
 have ht := R.t
 have htd := R.td
 have pct : zaj B.K 328 = true := (kg hK 272)
 refine zai ?_
 refine zav hh2 (za1 Fo.kind (Fo.loc _ (by walk_at "m")) (Fo.loc _ (by walk_at "m")) (by walk_at "r") (by decide) (by walk_at "r") (by walk_at "r") (by walk_at "r") (by walk_at "r")) ?_
 walk_at "g"
 intro ra
 walk_at "g"
 intro na
 walk_at "g"
 refine ⟨_, rfl, rfl, ?_⟩
 show Sr _ _ _ [_, _] [_, _] _ _ _
 walk_at "s"
 refine zai ?_
 refine zd9 (fun _ _ x => x.elim) ?_ (by intro _; walk_at "r")
 walk_at "g"
 refine ⟨[.tup [.str "x", W, .bool false]], _, fun i l' => ∃ v1 v2 v3 v4 : Option AV, (i = 0 ∧ l' = (na, zaa.list []) :: (ra, zaa.list []) :: (L, zaa.ns [("self", some (.ref t)), ("typex", some (.tup [.str "struct", .int 4, .tup [.tup [.str "x", W, .bool false]]])), ("rows", some (.ref ra)), ("names", some (.ref na)), ("name", v1), ("inner", v2), ("is_embedded", v3), ("told", v4)]) :: (lz, zaa.list gs) :: (lk, zaa.list ks) :: r) ∨ (i = 1 ∧ l' = (na, zaa.list [.str "x"]) :: (ra, zaa.list [.tup [.str "x", T, .bool false]]) :: (L, zaa.ns [("self", some (.ref t)), ("typex", some (.tup [.str "struct", .int 4, .tup [.tup [.str "x", W, .bool false]]])), ("rows", some (.ref ra)), ("names", some (.ref na)), ("name", v1), ("inner", v2), ("is_embedded", v3), ("told", v4)]) :: (lz, zaa.list gs') :: (lk, zaa.list ks') :: r), _, fun _ => True, zdl hh2, trivial, ⟨none, none, none, none, (.inl ⟨rfl, rfl⟩)⟩, fun _ _ _ => trivial, ?_, ?_⟩
 ·rintro i y ls l' hy ⟨v1, v2, v3, v4, ⟨rfl, rfl⟩ | ⟨rfl, rfl⟩⟩
  ·cases hy
   walk_at "g"
   refine zkc (by walk_at "d") ?_
   walk_at "g"
   refine zdM (by walk_at "m") rfl rfl (by show A.units + 3 + 0 + 0 + 1 < _; walk_at "o") ?_
   walk_at "g"
   refine zao (C := 328) (d := td) (by walk_at "m") (by walk_at "m") ((kg hK 274)) ((kg hK 275)) pct (zak ["world", "scope", "const_reader"] rfl (by decide)) ?_
   walk_at "g"
   refine ⟨zac (kg hK 276), zab (zbH (Le.pick (.app pz3) (Le.pick (.app pz3) Le.refl)) (hread (A.deeper e) _ _ _ (fun p hp => by walk_at "m") (Nat.le_refl _) hh2 (Nat.le_refl _) ?_))⟩
   walk_at "g"
   refine zcq ?_ (by intro _; walk_at "r")
   walk_at "g"
   refine zbb (by walk_at "m") ?_
   walk_at "g"
   refine ⟨zap, za3 (.tail (.tail (.app .head))) (by show 0 ≤ 10 ^ 6; decide) ?_⟩
   walk_at "g"
   refine zbb (by walk_at "m") ?_
   walk_at "g"
   refine ⟨zap, za3 (.tail (.tail (.app (.tail .head)))) (by show 0 ≤ 10 ^ 6; decide) ?_⟩
   walk_at "g"
   refine ⟨(na, zaa.list [.str "x"]) :: (ra, zaa.list [.tup [.str "x", T, .bool false]]) :: (L, zaa.ns [("self", some (.ref t)), ("typex", some (.tup [.str "struct", .int 4, .tup [.tup [.str "x", W, .bool false]]])), ("rows", some (.ref ra)), ("names", some (.ref na)), ("name", some (.str "x")), ("inner", some W), ("is_embedded", some (.bool false)), ("told", some T)]) :: (lz, zaa.list gs') :: (lk, zaa.list ks') :: r, ?_, _, _, _, _, .inr ⟨rfl, rfl⟩⟩
   exact Le.turn (Le.pick (.tail (.tail (.app .head))) (Le.turn (Le.pick (.tail (.tail (.app .head))) (Le.turn (Le.pick (.tail (.tail (.app .head))) (Le.turn (lz0 (Le.turn (lz0 Le.refl)))))))))
  ·cases hy
 ·rintro l' ⟨v1, v2, v3, v4, ⟨h0, _⟩ | ⟨_, rfl⟩⟩
  ·cases h0
  ·walk_at "g"
   refine zao (C := 328) (d := td) (by walk_at "m") (by walk_at "m") ((kg hK 289)) ((kg hK 290)) pct (zak ["world", "scope", "const_reader"] rfl (by decide)) ?_
   walk_at "g"
   refine zah Fo (by walk_at "m") (zaO (n := "tuple") (kg hK 131) zaX (by decide)) ?_
   walk_at "g"
   refine ⟨zaA, zbp (xs := [.tup [.str "x", T, .bool false]]) (by walk_at "m") (by show 1 ≤ 10 ^ 6; decide) ?_⟩
   walk_at "g"
   refine ⟨zac (kg hK 291), zab (zbH (lz3 (lz3 Le.refl)) (zkv hK (by walk_at "d") (R.up fun p hp => .tail _ (.tail _ (.tail _ hp))) hgs ?_))⟩
   walk_at "g"
   exact ⟨_, lz0 (lz0 (Le.skip (Le.skip (Le.skip Le.refl)))), h⟩
noncomputable abbrev zra : AV := .tup [.str "name", .int 0, .none, .str "int"]
noncomputable abbrev zmP : AV := .tup [.str "name", .int 0, .none, .str "string"]
noncomputable abbrev zpX : AV := .tup [.str "int", .str "int"]
noncomputable abbrev zfs : AV := .tup [.str "string"]
noncomputable abbrev zqI (i : Int) (T : AV) : AV := .tup [.str "array", .int i, T]
noncomputable abbrev zjW (T : AV) : AV := .tup [.str "struct", .tup [.tup [.str "x", T, .bool false]]]
inductive Rd : Nat → AV → AV → List AV → List AV → Prop
 | int {n : Nat} : Rd n zra zpX [] []
 | str {n : Nat} : Rd n zmP zfs [] []
 | ptr {n : Nat} {W T : AV} {K G : List AV} : Rd n W T K G → Rd (n + 1) (.tup [.str "ptr", .int 0, W]) (.tup [.str "ptr", T]) K G
 | slice {n : Nat} {W T : AV} {K G : List AV} : Rd n W T K G → Rd (n + 1) (.tup [.str "slice", .int 0, W]) (.tup [.str "slice", T]) K G
 | arr {n : Nat} {W T : AV} {K G : List AV} {i sp : Int} : 0 ≤ i ∧ i ≤ 2 ^ 20 → Rd n W T K G → Rd (n + 1) (.tup [.str "array", .int sp, .tup [.str "int", .int 0, .int i], W]) (zqI i T) K (G ++ [.tup [zqI i T, .int sp]])
 | map {n : Nat} {W T : AV} {K G : List AV} : Rd n W T K G → Rd (n + 1) (.tup [.str "map", .int 0, zmP, W]) (.tup [.str "map", zfs, T]) (.tup [zfs, .int 0] :: K) G
 | chan {n : Nat} {W T : AV} {K G : List AV} : Rd n W T K G → Rd (n + 1) (.tup [.str "chan", .int 0, .str "both", W]) (.tup [.str "chan", .str "both", T]) K G
 | func {n : Nat} {W T : AV} {K G : List AV} : Rd n W T K G → Rd (n + 1) (.tup [.str "func", .int 0, .tup [W], .tup [], .bool false]) (.tup [.str "func", .tup [T], .tup [], .bool false]) K G
 | struct {n : Nat} {W T : AV} {K G : List AV} : Rd n W T K G → Rd (n + 1) (.tup [.str "struct", .int 4, .tup [.tup [.str "x", W, .bool false]]]) (zjW T) K (G ++ [.tup [zjW T, .int 4]])
theorem Rd.len {n : Nat} {W T : AV} {K G : List AV} (h : Rd n W T K G) : K.length ≤ n ∧ G.length ≤ n := by
 induction h with
 | int => exact ⟨Nat.zero_le _, Nat.zero_le _⟩
 | str => exact ⟨Nat.zero_le _, Nat.zero_le _⟩
 | arr _ _ ih => rwa [List.length_append]; exact ⟨by walk_at "o", Nat.succ_le_succ ih.2⟩
 | map _ ih => exact ⟨Nat.succ_le_succ ih.1, by walk_at "o"⟩
 | struct _ ih => rwa [List.length_append]; exact ⟨by walk_at "o", Nat.succ_le_succ ih.2⟩
 | _ => rename_i ih; exact ⟨by walk_at "o", by walk_at "o"⟩
theorem zeN {B : zan} (hK : KF B.K) {t td w wd s2 f lk lp lz : Addr} {A : Around} {r : Led} {Ψ : XQ} {Φ : EQ} (R : Rdr t td w wd s2 f lk lp lz r) {x : Str} {T : AV} (hS : zcm s2 x (.tup [.str "type", T]) r) (hr : A.depth + 10 < recursionLimit) (hh : A.handled = none)
  (h : Φ T r) : Fn B A (.ref 287) [.ref t, .tup [.str "name", .int 0, .none, .str x]] r Φ Ψ := by
 obtain ⟨h1, h2, h3, ⟨nd, c0, c1, c2, c3, c4, c5, c6, c7, h4⟩, h5, h6⟩ := R
 refine zaz hK (by walk_at "d") fun L e hf hc Fo => ?_
 show Ex _ _ _ _ (_ :: _) _ _
 have hh2 : (A.deeper e).handled = none := hh
 have pct : zaj B.K 328 = true := (kg hK 272)
 have fit : ∀ x ∈ (["world", "scope", "const_reader"] : List Str), findIn B.K (.ref 328) x = some none := (kg hK 298)
 refine zai ?_
 refine zav hh2 (za1 Fo.kind (Fo.loc _ (by walk_at "m")) (Fo.loc _ (by walk_at "m")) (by walk_at "r") (by decide) (by walk_at "r") (by walk_at "r") (by walk_at "r") (by walk_at "r")) ?_
 walk_at "g"
 refine ⟨_, rfl, rfl, ?_⟩
 show Sr _ _ _ [_, _] [_, _] _ _ _
 walk_at "g"
 refine zat ?_
 walk_at "g"
 refine zal Fo (by walk_at "m") (zad (kg hK 251)) ?_
 walk_at "g"
 refine zaq (.tail _ h1) (.tail _ h2) (by walk_at "m") ?_ pct (fit _ (by walk_at "m"))
 walk_at "g"
 refine zaq (.tail _ h1) (.tail _ h2) (by walk_at "m") ?_ pct (fit _ (by walk_at "m"))
 walk_at "g"
 refine ⟨zac (kg hK 252), zab (zjP hK (by show A.depth + 1 + 4 < _; walk_at "o") (.tail _ h3) (.tail _ h4) rfl (hS.up fun p hp => .tail _ hp) ?_)⟩
 walk_at "g"
 exact ⟨_, Le.skip Le.refl, h⟩
theorem zow {B : zan} (hK : KF B.K) {t td w wd s2 f lk lp lz : Addr} {A : Around} {r : Led} {Ψ : XQ} {Φ : EQ} {ks gs : List AV} (R : Rdr t td w wd s2 f lk lp lz r) {x : Str} {T : AV} (hS : zcm s2 x (.tup [.str "type", T]) r) (hr : A.depth + 14 < recursionLimit) (hh : A.handled = none) (hks : ks.length ≤ 100)
  (h : Φ T ((lz, zaa.list gs) :: (lk, zaa.list (ks ++ [.tup [T, .int 0]])) :: r)) : Fn B A (.ref 306) [.ref t, .tup [.str "name", .int 0, .none, .str x]] ((lz, zaa.list gs) :: (lk, zaa.list ks) :: r) Φ Ψ := by
 have R0 := R
 obtain ⟨h1, h2, h3, ⟨nd, c0, c1, c2, c3, c4, c5, c6, c7, h4⟩, h5, h6⟩ := R
 refine zef hK (by walk_at "d") fun L e hf hc Fo => ?_
 show Ex _ _ _ _ (_ :: _) _ _
 have hh2 : (A.deeper e).handled = none := hh
 have pct : zaj B.K 328 = true := (kg hK 272)
 have fit : ∀ x ∈ (["world", "scope", "const_reader"] : List Str), findIn B.K (.ref 328) x = some none := (kg hK 298)
 have pcw : zaj B.K 664 = true := (kg hK 133)
 have fiw : ∀ x ∈ zar, findIn B.K (.ref 664) x = some none := (kg hK 202)
 walk_at "g"
 refine zao (C := 328) (d := td) (by walk_at "m") (by walk_at "m") ((kg hK 274)) ((kg hK 275)) pct (zak ["world", "scope", "const_reader"] rfl (by decide)) ?_
 walk_at "g"
 refine ⟨zac (kg hK 276), zab (zeN hK (R0.up fun p hp => .tail _ (.tail _ (.tail _ hp))) (hS.up fun p hp => .tail _ (.tail _ (.tail _ hp))) (by show A.depth + 1 + 10 < _; walk_at "o") hh2 ?_)⟩
 walk_at "g"
 refine zaq (.tail _ (.tail _ (.tail _ h1))) (.tail _ (.tail _ (.tail _ h2))) (by walk_at "m") ?_ pct (fit _ (by walk_at "m"))
 refine zaq (.tail _ (.tail _ (.tail _ h3))) (.tail _ (.tail _ (.tail _ h4))) (by walk_at "m") ?_ pcw (fiw _ (by delta zar; walk_at "m"))
 refine zbb (by walk_at "m") ?_
 walk_at "g"
 refine ⟨zap, za3 uz2 (by walk_at "o") ?_⟩
 walk_at "g"
 exact ⟨_, Le.skip Le.refl, h⟩
theorem znG {B : zan} (hK : KF B.K) {t td w wd s2 f lk lp lz : Addr} {A : Around} {r : Led} {Ψ : XQ} {Φ : EQ} {ks gs ks' gs' : List AV} (R : Rdr t td w wd s2 f lk lp lz r) (hr : A.depth + 4 < recursionLimit) (hh : A.handled = none) {W T : AV}
  (hread : ∀ (A' : Around) (r' : Led) (Φ' : EQ) (Ψ' : XQ), (∀ p ∈ r, p ∈ r') → A'.depth ≤ A.depth + 1 → A'.handled = none → A'.units ≤ A.units + 3 → Φ' T ((lz, zaa.list gs') :: (lk, zaa.list ks') :: r') → Fn B A' (.ref 287) [.ref t, W] ((lz, zaa.list gs) :: (lk, zaa.list ks) :: r') Φ' Ψ')
  (h : Φ (.tup [T]) ((lz, zaa.list gs') :: (lk, zaa.list ks') :: r)) : Fn B A (.ref 292) [.ref t, .tup [W]] ((lz, zaa.list gs) :: (lk, zaa.list ks) :: r) Φ Ψ := by
 refine zcn hK (by walk_at "d") fun L c0 e hf hc Fo => ?_
 show Ex _ _ _ _ (_ :: _) _ _
 have hh2 : (A.deeper e).handled = none := hh
 have ht := R.t
 have htd := R.td
 have pct : zaj B.K 328 = true := (kg hK 272)
 walk_at "g"
 refine zah Fo (by walk_at "m") (zaO (n := "tuple") (kg hK 131) zaX (by decide)) ?_
 walk_at "g"
 refine za8 Fo (own := [".0", "one"]) (gs' := []) (cs := ["self"]) (cl' := [("self", c0)]) (by decide +kernel) rfl (fun p hp => hp) ?_ (by intro _; walk_at "r")
 walk_at "g"
 refine ⟨[W], _, fun i ys l' => (i = 0 ∧ ys = [] ∧ l' = (lz, zaa.list gs) :: (lk, zaa.list ks) :: (L, zaa.ns [("typexes", some (.tup [W]))]) :: (c0, zaa.cell (some (.ref t))) :: r) ∨ (i = 1 ∧ ys = [T] ∧ l' = (lz, zaa.list gs') :: (lk, zaa.list ks') :: (L, zaa.ns [("typexes", some (.tup [W]))]) :: (c0, zaa.cell (some (.ref t))) :: r), _, _, zdn (lz2 (lz2 Le.refl)) (zdl hh2), trivial, by show 1 ≤ 10 ^ 6; decide, .inl (iAA rfl rfl rfl), fun _ _ _ _ _ => trivial, ?_, ?_⟩
 ·rintro C env' i x ys m kk l' hx hI Fo' hm
  refine xEE (zdk hm) fun a b yq159 => ?_
  subst yq159
  rcases hI with ⟨rfl, rfl, rfl⟩ | ⟨rfl, rfl, rfl⟩
  ·cases hx
   walk_at "g"
   refine zao (C := 328) (d := td) (by walk_at "m") (by walk_at "m") ((kg hK 274)) ((kg hK 275)) pct (zak ["world", "scope", "const_reader"] rfl (by decide)) ?_
   walk_at "g"
   refine ⟨zac (kg hK 276), zab (zbH (Le.pick (.tail (.app .head)) (Le.pick (.tail (.app .head)) Le.refl)) (hread (A.deeper e) _ _ _ (fun p hp => by walk_at "m") (Nat.le_refl _) hh2 (Nat.le_refl _) ?_))⟩
   exact ⟨_, _, rfl, lz2 (Le.turn (lz0 (Le.turn (lz0 Le.refl)))), .inr (iAA rfl rfl rfl)⟩
  ·cases hx
 ·intro ys l' hI D
  rcases hI with ⟨h0, _, _⟩ | ⟨_, rfl, rfl⟩
  ·cases h0
  ·walk_at "g"
   refine ⟨zaA, zbp (.head _) (by show 1 ≤ 10 ^ 6; decide) ?_⟩
   walk_at "g"
   exact ⟨_, Le.skip (lz0 (lz0 (Le.skip (Le.skip Le.refl)))), h⟩
theorem znH {B : zan} (hK : KF B.K) {t : Addr} {A : Around} {r : Led} {Ψ : XQ} {Φ : EQ} (hr : A.depth + 4 < recursionLimit) (hh : A.handled = none)
  (h : Φ (.tup []) r) : Fn B A (.ref 292) [.ref t, .tup []] r Φ Ψ := by
 refine zcn hK (by walk_at "d") fun L c0 e hf hc Fo => ?_
 show Ex _ _ _ _ (_ :: _) _ _
 have hh2 : (A.deeper e).handled = none := hh
 walk_at "g"
 refine zah Fo (by walk_at "m") (zaO (n := "tuple") (kg hK 131) zaX (by decide)) ?_
 walk_at "g"
 refine za8 Fo (own := [".0", "one"]) (gs' := []) (cs := ["self"]) (cl' := [("self", c0)]) (by decide +kernel) rfl (fun p hp => hp) ?_ (by intro _; walk_at "r")
 walk_at "g"
 refine ⟨[], _, fun i ys l' => ys = [] ∧ l' = (L, zaa.ns [("typexes", some (.tup []))]) :: (c0, zaa.cell (some (.ref t))) :: r, _, _, zdl hh2, trivial, by show 0 ≤ 10 ^ 6; decide, ⟨rfl, rfl⟩, fun _ _ _ _ _ => trivial, ?_, ?_⟩
 ·rintro C env' i x ys m kk l' hx hI Fo' hm; cases hx
 ·intro ys l' zq23 D
  revert ys l'
  refine sQQ ?_
  walk_at "g"
  refine ⟨zaA, zbp (.head _) (by show 0 ≤ 10 ^ 6; decide) ?_⟩
  walk_at "g"
  exact ⟨_, Le.skip (Le.skip (Le.skip Le.refl)), h⟩
set_option maxHeartbeats 4000000 in
theorem zm3 {B : zan} (hK : KF B.K) {t td w wd s2 f lk lp lz : Addr} {base : Led} (R : Rdr t td w wd s2 f lk lp lz base)
  (hcr : ∀ (A' : Around) (l1 : Led) (i : Int) (Φ' : EQ) (Ψ' : XQ), (∀ p ∈ base, p ∈ l1) → A'.depth + 10 < recursionLimit → A'.handled = none → Φ' (.tup [zb5, .int i]) l1 → ze7 B (.ref f) l1 ∧ zaZ B A' (.ref f) [.tup [.str "int", .int 0, .int i]] l1 Φ' Ψ') :
  ∀ (n : Nat) {A : Around} {r : Led} {Ψ : XQ} {Φ : EQ} {ks gs : List AV} {W T : AV} {K G : List AV}, n ≤ 10 → Rd n W T K G → A.depth + 4 * n + 30 < recursionLimit → A.handled = none → A.units + 10 * n + 60 < cLine → (∀ p ∈ base, p ∈ r) → ks.length + n ≤ 50 → gs.length + n ≤ 50 → Φ T ((lz, zaa.list (gs ++ G)) :: (lk, zaa.list (ks ++ K)) :: r) → Fn B A (.ref 287) [.ref t, W] ((lz, zaa.list gs) :: (lk, zaa.list ks) :: r) Φ Ψ := by
 have hname : ∀ {A : Around} {r : Led} {Ψ : XQ} {Φ : EQ} {ks gs : List AV} {x : Str} {T : AV}, zcm s2 x (.tup [.str "type", T]) base → A.depth + 30 < recursionLimit → A.handled = none → (∀ p ∈ base, p ∈ r) → Φ T ((lz, zaa.list (gs ++ [])) :: (lk, zaa.list (ks ++ [])) :: r) → Fn B A (.ref 287) [.ref t, .tup [.str "name", .int 0, .none, .str x]] ((lz, zaa.list gs) :: (lk, zaa.list ks) :: r) Φ Ψ := by
  intro A r Ψ Φ ks gs x T hS hr hh hb h
  rw [List.append_nil, List.append_nil] at h
  exact zeN hK (R.up fun p hp => .tail _ (.tail _ (hb p hp))) (hS.up fun p hp => .tail _ (.tail _ (hb p hp))) (by walk_at "o") hh h
 intro n A r Ψ Φ ks gs W T K G h10 hRd hr hh hu hb hks hgs h
 induction hRd generalizing A r Ψ Φ ks gs with
 | int => exact hname R.int (by walk_at "o") hh hb h
 | str => exact hname R.str (by walk_at "o") hh hb h
 | @ptr n W T K G hS ih =>
  have R' := R.up hb
  have ht := R'.t
  have htd := R'.td
  refine zaz hK (by walk_at "d") fun L e hf hc Fo => ?_
  show Ex _ _ _ _ (_ :: _) _ _
  have hh2 : (A.deeper e).handled = none := hh
  have pct : zaj B.K 328 = true := (kg hK 272)
  refine zai ?_
  refine zav hh2 (za1 Fo.kind (Fo.loc _ (by walk_at "m")) (Fo.loc _ (by walk_at "m")) (by walk_at "r") (by decide) (by walk_at "r") (by walk_at "r") (by walk_at "r") (by walk_at "r")) ?_
  walk_at "g"
  refine ⟨_, rfl, rfl, ?_⟩
  show Sr _ _ _ [_, _] [_, _] _ _ _
  walk_at "g"
  refine zat ?_
  walk_at "g"
  refine zbG (by decide) rfl (by show A.units + 3 + _ + _ + 1 < _; simp [zaH, zaG]; walk_at "o") ?_
  walk_at "g"
  refine zao (C := 328) (d := td) (by walk_at "m") (by walk_at "m") ((kg hK 274)) ((kg hK 275)) pct (zak ["world", "scope", "const_reader"] rfl (by decide)) ?_
  walk_at "g"
  refine ⟨zac (kg hK 276), zab (zbH (l' := (lz, zaa.list gs) :: (lk, zaa.list ks) :: (L, _) :: r) (lz1 (lz1 Le.refl)) (ih (by walk_at "o") (by show A.depth + 1 + 4 * n + 30 < _; walk_at "o") hh2 (by show A.units + 3 + 10 * n + 60 < _; walk_at "o") (fun p hp => .tail _ (hb p hp)) (by walk_at "o") (by walk_at "o") ?_))⟩
  walk_at "g"
  exact ⟨_, lz0 (lz0 (Le.skip Le.refl)), h⟩
 | @slice n W T K G hS ih =>
  have R' := R.up hb
  have ht := R'.t
  have htd := R'.td
  refine zaz hK (by walk_at "d") fun L e hf hc Fo => ?_
  show Ex _ _ _ _ (_ :: _) _ _
  have hh2 : (A.deeper e).handled = none := hh
  have pct : zaj B.K 328 = true := (kg hK 272)
  refine zai ?_
  refine zav hh2 (za1 Fo.kind (Fo.loc _ (by walk_at "m")) (Fo.loc _ (by walk_at "m")) (by walk_at "r") (by decide) (by walk_at "r") (by walk_at "r") (by walk_at "r") (by walk_at "r")) ?_
  walk_at "g"
  refine ⟨_, rfl, rfl, ?_⟩
  show Sr _ _ _ [_, _] [_, _] _ _ _
  walk_at "g"
  refine zat ?_
  walk_at "g"
  refine zbG (by decide) rfl (by show A.units + 3 + _ + _ + 1 < _; simp [zaH, zaG]; walk_at "o") ?_
  walk_at "g"
  refine zao (C := 328) (d := td) (by walk_at "m") (by walk_at "m") ((kg hK 274)) ((kg hK 275)) pct (zak ["world", "scope", "const_reader"] rfl (by decide)) ?_
  walk_at "g"
  refine ⟨zac (kg hK 276), zab (zbH (l' := (lz, zaa.list gs) :: (lk, zaa.list ks) :: (L, _) :: r) (lz1 (lz1 Le.refl)) (ih (by walk_at "o") (by show A.depth + 1 + 4 * n + 30 < _; walk_at "o") hh2 (by show A.units + 3 + 10 * n + 60 < _; walk_at "o") (fun p hp => .tail _ (hb p hp)) (by walk_at "o") (by walk_at "o") ?_))⟩
  walk_at "g"
  exact ⟨_, lz0 (lz0 (Le.skip Le.refl)), h⟩
 | @chan n W T K G hS ih =>
  have R' := R.up hb
  have ht := R'.t
  have htd := R'.td
  refine zaz hK (by walk_at "d") fun L e hf hc Fo => ?_
  show Ex _ _ _ _ (_ :: _) _ _
  have hh2 : (A.deeper e).handled = none := hh
  have pct : zaj B.K 328 = true := (kg hK 272)
  refine zai ?_
  refine zav hh2 (za1 Fo.kind (Fo.loc _ (by walk_at "m")) (Fo.loc _ (by walk_at "m")) (by walk_at "r") (by decide) (by walk_at "r") (by walk_at "r") (by walk_at "r") (by walk_at "r")) ?_
  walk_at "g"
  refine ⟨_, rfl, rfl, ?_⟩
  show Sr _ _ _ [_, _] [_, _] _ _ _
  walk_at "g"
  refine zat ?_
  walk_at "g"
  refine zbG (by decide) rfl (by show A.units + 3 + _ + _ + 1 < _; simp [zaH, zaG]; walk_at "o") ?_
  walk_at "g"
  refine zat ?_
  walk_at "g"
  refine zat ?_
  walk_at "g"
  refine zat ?_
  walk_at "g"
  refine zao (C := 328) (d := td) (by walk_at "m") (by walk_at "m") ((kg hK 274)) ((kg hK 275)) pct (zak ["world", "scope", "const_reader"] rfl (by decide)) ?_
  walk_at "g"
  refine ⟨zac (kg hK 276), zab (zbH (l' := (lz, zaa.list gs) :: (lk, zaa.list ks) :: (L, _) :: r) (lz1 (lz1 Le.refl)) (ih (by walk_at "o") (by show A.depth + 1 + 4 * n + 30 < _; walk_at "o") hh2 (by show A.units + 3 + 10 * n + 60 < _; walk_at "o") (fun p hp => .tail _ (hb p hp)) (by walk_at "o") (by walk_at "o") ?_))⟩
  walk_at "g"
  exact ⟨_, lz0 (lz0 (Le.skip Le.refl)), h⟩
 | @arr n W0 T0 K G0 i sp hi hS ih =>
  have R' := R.up hb
  have ht := R'.t
  have htd := R'.td
  refine zaz hK (by walk_at "d") fun L e hf hc Fo => ?_
  show Ex _ _ _ _ (_ :: _) _ _
  have hh2 : (A.deeper e).handled = none := hh
  have pct : zaj B.K 328 = true := (kg hK 272)
  refine zai ?_
  refine zav hh2 (za1 Fo.kind (Fo.loc _ (by walk_at "m")) (Fo.loc _ (by walk_at "m")) (by walk_at "r") (by decide) (by walk_at "r") (by walk_at "r") (by walk_at "r") (by walk_at "r")) ?_
  walk_at "g"
  refine ⟨_, rfl, rfl, ?_⟩
  show Sr _ _ _ [_, _] [_, _] _ _ _
  walk_at "g"
  refine zat ?_
  walk_at "g"
  refine zbG (by decide) rfl (by show A.units + 3 + _ + _ + 1 < _; simp [zaH, zaG]; walk_at "o") ?_
  walk_at "g"
  refine zat ?_
  walk_at "g"
  refine zao (C := 328) (d := td) (by walk_at "m") (by walk_at "m") ((kg hK 289)) ((kg hK 290)) pct (zak ["world", "scope", "const_reader"] rfl (by decide)) ?_
  walk_at "g"
  refine zao (C := 328) (d := td) (by walk_at "m") (by walk_at "m") ((kg hK 280)) ((kg hK 281)) pct (zak ["world", "scope", "const_reader"] rfl (by decide)) ?_
  walk_at "g"
  refine ⟨zac (kg hK 282), zab (zks (td := td) (f := f) (w := .ref w) (s := .ref s2) hK (by show A.depth + 1 + 8 < _; walk_at "o") hh2 (by walk_at "m") (by walk_at "m") hi (fun A' l1 Φ' Ψ' hp hd2 hh3 hΦ => hcr A' l1 i Φ' Ψ' (fun p hp' => hp p (.tail _ (.tail _ (.tail _ (hb p hp'))))) (by have hd3 : A'.depth ≤ A.depth + 1 + 1 := hd2; walk_at "o") hh3 hΦ) ?_)⟩
  walk_at "g"
  refine zao (C := 328) (d := td) (by walk_at "m") (by walk_at "m") ((kg hK 274)) ((kg hK 275)) pct (zak ["world", "scope", "const_reader"] rfl (by decide)) ?_
  walk_at "g"
  refine ⟨zac (kg hK 276), zab (zbH (l' := (lz, zaa.list gs) :: (lk, zaa.list ks) :: (L, _) :: r) (lz1 (lz1 Le.refl)) (ih (by walk_at "o") (by show A.depth + 1 + 4 * n + 30 < _; walk_at "o") hh2 (by show A.units + 3 + 10 * n + 60 < _; walk_at "o") (fun p hp => .tail _ (hb p hp)) (by walk_at "o") (by walk_at "o") ?_))⟩
  walk_at "g"
  have hgl := hS.len
  refine ⟨zac (kg hK 291), zab (zkv hK (by show A.depth + 1 + 2 < _; walk_at "o") (R'.up fun p hp => .tail _ hp) (by rwa [List.length_append]; walk_at "o") ?_)⟩
  walk_at "g"
  rwa [List.append_assoc]
  exact ⟨_, lz0 (lz0 (Le.skip Le.refl)), h⟩
 | @map n W0 T0 K0 G hS ih =>
  have R' := R.up hb
  have ht := R'.t
  have htd := R'.td
  refine zaz hK (by walk_at "d") fun L e hf hc Fo => ?_
  show Ex _ _ _ _ (_ :: _) _ _
  have hh2 : (A.deeper e).handled = none := hh
  have pct : zaj B.K 328 = true := (kg hK 272)
  refine zai ?_
  refine zav hh2 (za1 Fo.kind (Fo.loc _ (by walk_at "m")) (Fo.loc _ (by walk_at "m")) (by walk_at "r") (by decide) (by walk_at "r") (by walk_at "r") (by walk_at "r") (by walk_at "r")) ?_
  walk_at "g"
  refine ⟨_, rfl, rfl, ?_⟩
  show Sr _ _ _ [_, _] [_, _] _ _ _
  walk_at "g"
  refine zat ?_
  walk_at "g"
  refine zbG (by decide) rfl (by show A.units + 3 + _ + _ + 1 < _; simp [zaH, zaG]; walk_at "o") ?_
  walk_at "g"
  refine zat ?_
  walk_at "g"
  refine zat ?_
  walk_at "g"
  refine zao (C := 328) (d := td) (by walk_at "m") (by walk_at "m") ((kg hK 283)) ((kg hK 284)) pct (zak ["world", "scope", "const_reader"] rfl (by decide)) ?_
  walk_at "g"
  refine ⟨zac (kg hK 285), zab (zbH (l' := (lz, zaa.list gs) :: (lk, zaa.list ks) :: (L, _) :: r) (lz1 (lz1 Le.refl)) (zow hK (R'.up fun p hp => .tail _ hp) (R'.str.up fun p hp => .tail _ hp) (by show A.depth + 1 + 14 < _; walk_at "o") hh2 (by walk_at "o") ?_))⟩
  walk_at "g"
  refine zao (C := 328) (d := td) (by walk_at "m") (by walk_at "m") ((kg hK 274)) ((kg hK 275)) pct (zak ["world", "scope", "const_reader"] rfl (by decide)) ?_
  walk_at "g"
  refine ⟨zac (kg hK 276), zab (zbH (l' := (lz, zaa.list gs) :: (lk, zaa.list (ks ++ [.tup [zfs, .int 0]])) :: (L, _) :: r) Le.refl (ih (by walk_at "o") (by show A.depth + 1 + 4 * n + 30 < _; walk_at "o") hh2 (by show A.units + 3 + 10 * n + 60 < _; walk_at "o") (fun p hp => .tail _ (hb p hp)) (by rwa [List.length_append]; show ks.length + 1 + n ≤ 50; walk_at "o") (by walk_at "o") ?_))⟩
  walk_at "g"
  rwa [List.append_assoc]
  exact ⟨_, lz0 (lz0 (Le.skip Le.refl)), h⟩
 | @func n W T K G hS ih =>
  have R' := R.up hb
  have ht := R'.t
  have htd := R'.td
  refine zaz hK (by walk_at "d") fun L e hf hc Fo => ?_
  show Ex _ _ _ _ (_ :: _) _ _
  have hh2 : (A.deeper e).handled = none := hh
  have pct : zaj B.K 328 = true := (kg hK 272)
  refine zai ?_
  refine zav hh2 (za1 Fo.kind (Fo.loc _ (by walk_at "m")) (Fo.loc _ (by walk_at "m")) (by walk_at "r") (by decide) (by walk_at "r") (by walk_at "r") (by walk_at "r") (by walk_at "r")) ?_
  walk_at "g"
  refine ⟨_, rfl, rfl, ?_⟩
  show Sr _ _ _ [_, _] [_, _] _ _ _
  walk_at "g"
  refine zat ?_
  walk_at "g"
  refine zbG (by decide) rfl (by show A.units + 3 + _ + _ + 1 < _; simp [zaH, zaG]; walk_at "o") ?_
  walk_at "g"
  refine zat ?_
  walk_at "g"
  refine zat ?_
  walk_at "g"
  refine zat ?_
  walk_at "g"
  refine zat ?_
  walk_at "g"
  refine zao (C := 328) (d := td) (by walk_at "m") (by walk_at "m") ((kg hK 277)) ((kg hK 278)) pct (zak ["world", "scope", "const_reader"] rfl (by decide)) ?_
  walk_at "g"
  refine ⟨zac (kg hK 279), zab (zbH (l' := (lz, zaa.list gs) :: (lk, zaa.list ks) :: (L, _) :: r) (lz1 (lz1 Le.refl)) (znG hK (R'.up fun p hp => .tail _ hp) (by show A.depth + 1 + 4 < _; walk_at "o") hh2 (fun A' r' Φ' Ψ' hp hd2 hh3 hu2 hΦ => ih (by walk_at "o") (by have hd3 : A'.depth ≤ A.depth + 1 + 1 := hd2; walk_at "o") hh3 (by have hu3 : A'.units ≤ A.units + 3 + 3 := hu2; walk_at "o") (fun p hp' => hp p (.tail _ (hb p hp'))) (by walk_at "o") (by walk_at "o") hΦ) ?_))⟩
  walk_at "g"
  refine zao (C := 328) (d := td) (by walk_at "m") (by walk_at "m") ((kg hK 277)) ((kg hK 278)) pct (zak ["world", "scope", "const_reader"] rfl (by decide)) ?_
  walk_at "g"
  refine ⟨zac (kg hK 279), zab (znH hK (by show A.depth + 1 + 4 < _; walk_at "o") hh2 ?_)⟩
  walk_at "g"
  exact ⟨_, lz0 (lz0 (Le.skip Le.refl)), h⟩
 | @struct n W0 T0 K G0 hS ih =>
  have R' := R.up hb
  have ht := R'.t
  have htd := R'.td
  refine zaz hK (by walk_at "d") fun L e hf hc Fo => ?_
  show Ex _ _ _ _ (_ :: _) _ _
  have hh2 : (A.deeper e).handled = none := hh
  have pct : zaj B.K 328 = true := (kg hK 272)
  refine zai ?_
  refine zav hh2 (za1 Fo.kind (Fo.loc _ (by walk_at "m")) (Fo.loc _ (by walk_at "m")) (by walk_at "r") (by decide) (by walk_at "r") (by walk_at "r") (by walk_at "r") (by walk_at "r")) ?_
  walk_at "g"
  refine ⟨_, rfl, rfl, ?_⟩
  show Sr _ _ _ [_, _] [_, _] _ _ _
  walk_at "g"
  refine zat ?_
  walk_at "g"
  refine zbG (by decide) rfl (by show A.units + 3 + _ + _ + 1 < _; simp [zaH, zaG]; walk_at "o") ?_
  walk_at "g"
  refine zat ?_
  walk_at "g"
  refine zat ?_
  walk_at "g"
  refine zat ?_
  walk_at "g"
  refine zat ?_
  walk_at "g"
  refine zat ?_
  walk_at "g"
  refine zao (C := 328) (d := td) (by walk_at "m") (by walk_at "m") ((kg hK 286)) ((kg hK 287)) pct (zak ["world", "scope", "const_reader"] rfl (by decide)) ?_
  walk_at "g"
  have hgl := hS.len
  refine ⟨zac (kg hK 288), zab (zbH (l' := (lz, zaa.list gs) :: (lk, zaa.list ks) :: (L, _) :: r) (lz1 (lz1 Le.refl)) (zjV hK (R'.up fun p hp => .tail _ hp) (by show A.depth + 1 + 6 < _; walk_at "o") hh2 (by show A.units + 3 + 20 < _; walk_at "o") (by rwa [List.length_append]; walk_at "o") (fun A' r' Φ' Ψ' hp hd2 hh3 hu2 hΦ => ih (by walk_at "o") (by have hd3 : A'.depth ≤ A.depth + 1 + 1 := hd2; walk_at "o") hh3 (by have hu3 : A'.units ≤ A.units + 3 + 3 := hu2; walk_at "o") (fun p hp' => hp p (.tail _ (hb p hp'))) (by walk_at "o") (by walk_at "o") hΦ) ?_))⟩
  walk_at "g"
  rwa [List.append_assoc]
  exact ⟨_, lz0 (lz0 (Le.skip Le.refl)), h⟩
theorem zjN {B : zan} {A : Around} {l : Led} {Ψ : XQ} {Φ : EQ} (hK : KF B.K) (hr : A.depth + 2 < recursionLimit) {w s2 f : Addr}
  (h : ∀ x d, Φ (.ref x) ((x, zaa.inst 328 d) :: (d, zaa.dict (zqb w s2 f)) :: l)) : Fn B A (.ref 328) [.ref w, .ref s2, .ref f] l Φ Ψ := by
 refine zcE ((kg hK 268)) ((kg hK 269)) ((kg hK 270)) fun A' x d a1 a2 a3 a4 => ?_
 refine zdJ hK (by walk_at "d") fun L e hf hc Fo => ?_
 show Ex _ _ _ _ (_ :: _) _ _
 have pc : zaj B.K 328 = true := (kg hK 272)
 have ta : ∀ x ∈ (["world", "scope", "const_reader"] : List Str), takerIn B.K 328 x = some none := (kg hK 297)
 walk_at "g"
 refine zam (by walk_at "m") (.tail (.tail .head)) pc (ta _ (by walk_at "m")) (fun rk nd r => zae rk (by simp) r) (by simp) ?_
 walk_at "g"
 refine zam (by walk_at "m") (.tail (.tail .head)) pc (ta _ (by walk_at "m")) (fun rk nd r => zae rk (zak ["world"] rfl (by decide)) r) (by simp) ?_
 walk_at "g"
 refine zam (by walk_at "m") (.tail (.tail .head)) pc (ta _ (by walk_at "m")) (fun rk nd r => zae rk (zak ["world", "scope"] rfl (by decide)) r) (by simp) ?_
 walk_at "g"
 exact ⟨_, Le.skip Le.refl, rfl, h x d⟩
mutual
noncomputable def zgl : AV → Nat
 | .tup l => zbc l + 1
 | _ => 1
noncomputable def zbc : List AV → Nat
 | [] => 0
 | a :: l => zgl a + zbc l
end
theorem zhY (a : AV) : 1 ≤ zgl a := by cases a <;> simp [zgl]
theorem zet : ∀ l : List AV, l.length ≤ zbc l
 | [] => Nat.le_refl _
 | a :: l => by have := zhY a; have := zet l; simp only [zbc, List.length_cons]; walk_at "o"
theorem zeu : ∀ a b : List AV, zbc (a ++ b) = zbc a + zbc b
 | [], b => by simp [zbc]
 | x :: a, b => by simp only [List.cons_append, zbc, zeu a b]; walk_at "o"
theorem zi3 {a : AV} (h : zau a = true) : zmD a = true := by cases a <;> first | rfl | cases h
noncomputable abbrev zcO (p : AV × Int) : AV := .tup [p.1, .int p.2]
structure ziB (p : AV × Int) : Prop where
 plain : zau p.1 = true
 lo : 0 ≤ p.2
 hi : p.2 + zaH p.1 ≤ 100
noncomputable def zhN (Z : Nat) (L c0 lf : Addr) (T sp : AV) (l : Led) (n : Nat) (l' : Led) : Prop :=
 ∃ (ps : List (AV × Int)) (many : Nat) (hv lv : Option AV), n = zbc (ps.map (·.1)) ∧ n + many ≤ Z ∧ (∀ p ∈ ps, ziB p) ∧
  l' = (lf, zaa.list (ps.map zcO)) :: (L, zaa.ns [("told", some T), ("spot", some sp), ("left", some (.ref lf)), ("many", some (.int many)), ("here", hv)]) :: (c0, zaa.cell lv) :: l
theorem zjG {Z : Nat} {L c0 lf : Addr} {T sp : AV} {l : Led} {m : Nat} {l' : Led} (ps : List (AV × Int)) (many : Nat) (hv lv : Option AV) (h1 : m = zbc (ps.map (·.1))) (h2 : m + many ≤ Z) (h3 : ∀ p ∈ ps, ziB p) (h4 : l' = (lf, zaa.list (ps.map zcO)) :: (L, zaa.ns [("told", some T), ("spot", some sp), ("left", some (.ref lf)), ("many", some (.int many)), ("here", hv)]) :: (c0, zaa.cell lv) :: l) : zhN Z L c0 lf T sp l m l' := ⟨ps, many, hv, lv, h1, h2, h3, h4⟩
theorem zhV {Z : Nat} {L c0 lf : Addr} {T sp : AV} {l : Led} {n : Nat} {l0 : Led} (m : Nat) (l' : Led) (hn : m < n) (hl : Le l' l0) (ps : List (AV × Int)) (many : Nat) (hv lv : Option AV) (h1 : m = zbc (ps.map (·.1))) (h2 : m + many ≤ Z) (h3 : ∀ p ∈ ps, ziB p) (h4 : l' = (lf, zaa.list (ps.map zcO)) :: (L, zaa.ns [("told", some T), ("spot", some sp), ("left", some (.ref lf)), ("many", some (.int many)), ("here", hv)]) :: (c0, zaa.cell lv) :: l) : zjs (zhN Z L c0 lf T sp l) n l0 := ⟨m, l', hn, hl, zjG ps many hv lv h1 h2 h3 h4⟩
theorem zmK {B : zan} {A : Around} {l : Led} {Ψ : XQ} {Φ : EQ} (hK : KF B.K) (hr : A.depth + 4 < recursionLimit) (hh : A.handled = none) (hu : A.units + 20 < cLine) {T sp : AV} (hp : zau T = true) (hz : zgl T ≤ 1000) (hd : zaH T ≤ 90)
  (h : Φ .none l) : Fn B A (.ref 266) [T, sp] l Φ Ψ := by
 refine zec hK (by walk_at "d") fun L c0 e hf hc Fo => ?_
 show Ex _ _ _ _ (_ :: _) _ _
 have hh2 : (A.deeper e).handled = none := hh
 refine zai ?_
 refine zav hh2 (za1 Fo.kind (Fo.loc _ (by walk_at "m")) (Fo.loc _ (by walk_at "m")) (by walk_at "r") (by decide) (by walk_at "r") (by walk_at "r") (by walk_at "r") (by walk_at "r")) ?_
 walk_at "g"
 intro lf
 walk_at "g"
 refine ⟨_, rfl, rfl, ?_⟩
 show Sr _ _ _ [_, _] [_, _] _ _ _
 walk_at "s"
 refine zai ?_
 refine zdy (zhN (zgl T) L c0 lf T sp l) (zgl T) (fun _ _ x => x.elim) (zjG [(T, 1)] 0 none none (by simp [zbc]) (Nat.le_refl _) ?_ rfl) fun n l' hI => ?_
 ·intro p hp'
  rw [List.mem_singleton] at hp'
  subst hp'
  exact ⟨hp, by show (0 : Int) ≤ 1; decide, by show (1 : Int) + zaH T ≤ 100; walk_at "o"⟩
 refine zfM hI fun ps many hv lv hn hZ hps yq164 => ?_
 clear hI
 subst yq164
 have hlen := zet (ps.map (·.1))
 rw [List.length_map] at hlen
 rcases List.eq_nil_or_concat ps with rfl | ⟨qs, q, e0⟩
 ·walk_at "g"
  intro z
  walk_at "g"
  refine zbT (by walk_at "m") (by walk_at "m") (by walk_at "d") ?_
  walk_at "g"
  exact ⟨_, by walk_at "e", h⟩
 ·rw [List.concat_eq_append] at e0
  subst e0
  walk_at "g"
  intro z
  walk_at "g"
  refine zbT (by walk_at "m") (by walk_at "m") (by walk_at "d") ?_
  rwa [show (List.map zcO (qs ++ [q])).isEmpty = false by simp]
  have hq := hps q (List.mem_append_right _ (.head _))
  obtain ⟨h, lv0⟩ := q
  have hsz : zbc ((qs ++ [(h, lv0)]).map (·.1)) = zbc (qs.map (·.1)) + zgl h := by rwa [List.map_append, zeu]; simp [zbc]
  have hqs : ∀ p ∈ qs, ziB p := fun p hp => hps p (List.mem_append_left _ hp)
  rwa [List.map_append, show List.map zcO [(h, lv0)] = [.tup [h, .int lv0]] from rfl]
  rw [hsz] at hn
  clear hps
  walk_at "s"
  refine zai ?_
  refine zaL ?_ (by walk_at "r") (by walk_at "r")
  walk_at "s"
  refine zfC (by walk_at "m") ?_
  walk_at "s"
  refine ⟨zap, zfJ uz1 (by rwa [List.length_map]; rw [List.length_append] at hlen; walk_at "o") ?_⟩
  walk_at "s"
  refine zai ?_
  walk_at "s"
  refine zcq ?_ (by intro _; walk_at "r")
  walk_at "s"
  refine zah Fo (by walk_at "m") (za6 (n := "isinstance") (kg hK 213) (by decide +kernel) (by decide)) ?_
  walk_at "s"
  refine zah Fo (by walk_at "m") (zaO (n := "tuple") (kg hK 131) zaX (by decide)) ?_
  walk_at "s"
  refine ⟨zap, zbZ (zi3 hq.plain) ?_⟩
  walk_at "s"
  have hpos := zhY h
  refine zce (fun ht => ?_) (fun ht => ?_)
  ·obtain ⟨xs, rfl⟩ : ∃ xs, h = .tup xs := by cases h <;> first | exact ⟨_, rfl⟩ | cases ht
   have hsx : zgl (.tup xs) = zbc xs + 1 := rfl
   have hlx := zet xs
   walk_at "s"
   refine zai ?_
   refine zp9 ?_
   refine zoa Fo (by walk_at "m") (by walk_at "m") (by walk_at "m") ?_
   walk_at "s"
   refine zkd ?_
   walk_at "s"
   refine zai ?_
   walk_at "s"
   refine zal Fo (by walk_at "m") (zcJ (kg hK 299)) ?_
   walk_at "s"
   rwa [decide_eq_false (show ¬ (2000 : Int) < many + 1 by walk_at "o")]
   walk_at "s"
   refine zal Fo (by walk_at "m") (zcJ (kg hK 300)) ?_
   walk_at "s"
   have hdx : zaH (.tup xs) = zaG xs + 1 := rfl
   have hhi := hq.hi
   have hlo := hq.lo
   have hpl := hq.plain
   dsimp only at hhi hlo hpl
   rwa [decide_eq_false (show ¬ (100 : Int) < lv0 by walk_at "o")]
   walk_at "s"
   refine zai ?_
   walk_at "s"
   refine zkF (by walk_at "m") ?_
   walk_at "s"
   refine za8 Fo (own := [".0", "part"]) (gs' := []) (cs := ["level"]) (cl' := [("level", c0)]) (by decide +kernel) rfl (fun p hp => hp) ?_ (by intro _; walk_at "r")
   walk_at "s"
   refine ⟨xs, _, fun i ys l' => ys = ((xs.take i).map fun x => zcO (x, lv0 + 1)) ∧ l' = (lf, zaa.list (qs.map zcO)) :: (L, zaa.ns [("told", some T), ("spot", some sp), ("left", some (.ref lf)), ("many", some (.int (many + 1))), ("here", some (.tup xs))]) :: (c0, zaa.cell (some (.int lv0))) :: l, _, _, zdn (Le.skip Le.refl) (zdl hh2), trivial, by walk_at "o", ⟨rfl, rfl⟩, fun _ _ _ _ _ => trivial, ?_, ?_⟩
   ·intro C env' i x ys m kk l' hx zq24 Fo' hm
    revert ys l'
    refine sQQ ?_
    refine xEE (zdk hm) fun a b yq167 => ?_
    subst yq167
    walk_at "s"
    exact ⟨_, _, rfl, Le.refl, by rwa [zaM hx, List.map_append]; rfl, rfl⟩
   ·intro ys l' zq25 D
    revert ys l'
    refine sQQ ?_
    rwa [List.take_length]
    walk_at "s"
    refine ⟨zap, zkU uz1 (by walk_at "m") (by rwa [List.length_map, List.length_map]; rw [List.length_append] at hlen; walk_at "o") ?_⟩
    walk_at "s"
    have e1 : qs.map zcO ++ xs.map (fun x => zcO (x, lv0 + 1)) = (qs ++ xs.map fun x => (x, lv0 + 1)).map zcO := by rwa [List.map_append, List.map_map]; rfl
    have e2 : (qs ++ xs.map fun x => (x, lv0 + 1)).map (·.1) = qs.map (·.1) ++ xs := by rwa [List.map_append, List.map_map]; congr 1; exact List.map_id' xs
    have e3 : zbc ((qs ++ xs.map fun x => (x, lv0 + 1)).map (·.1)) = zbc (qs.map (·.1)) + zbc xs := by rwa [e2, zeu]
    rwa [e1]
    refine zhV (zbc ((qs ++ xs.map fun x => (x, lv0 + 1)).map (·.1))) _ (by walk_at "o") (Le.skip Le.refl) _ (many + 1) _ _ rfl (by walk_at "o") (fun p hp => ?_) rfl
    rcases List.mem_append.mp hp with hp | hp
    ·exact hqs p hp
    ·refine xEA (List.mem_map.mp hp) fun x hx yq170 => ?_
     subst yq170
     have := za4 hx
     exact ⟨zaI hpl hx, by show 0 ≤ lv0 + 1; walk_at "o", by show lv0 + 1 + (zaH x : Int) ≤ 100; walk_at "o"⟩
  ·walk_at "s"
   refine zhV (zbc (qs.map (·.1))) _ (by walk_at "o") (Le.skip Le.refl) qs many _ _ rfl (by walk_at "o") hqs rfl
theorem zgA (n : Nat) : seqIndex? 1 (n + 1 + 1) = some 1 := by
 unfold seqIndex?; simp; walk_at "o"
theorem Rd.head {n : Nat} {W T : AV} {K G : List AV} (h : Rd n W T K G) : ∃ k sp r, W = .tup (.str k :: .int sp :: r) := by
 induction h <;> exact (zqu _ _ _ rfl)
theorem Rd.told {n : Nat} {W T : AV} {K G : List AV} (h : Rd n W T K G) : zau T = true ∧ zgl T ≤ 7 * n + 5 ∧ zaH T ≤ 3 * n + 1 := by
 induction h with
 | int => exact (iAA rfl (by simp [zgl, zbc]) (by simp [zaH, zaG]))
 | str => exact (iAA rfl (by simp [zgl, zbc]) (by simp [zaH, zaG]))
 | ptr _ ih => (refine xAA ih fun a b c => ?_; clear ih); exact (iAA (by simp [zau, zaw, a]) (by simp [zgl, zbc]; walk_at "o") (by simp [zaH, zaG]; walk_at "o"))
 | slice _ ih => (refine xAA ih fun a b c => ?_; clear ih); exact (iAA (by simp [zau, zaw, a]) (by simp [zgl, zbc]; walk_at "o") (by simp [zaH, zaG]; walk_at "o"))
 | arr _ _ ih => (refine xAA ih fun a b c => ?_; clear ih); exact (iAA (by simp [zau, zaw, a]) (by simp [zgl, zbc]; walk_at "o") (by simp [zaH, zaG]; walk_at "o"))
 | map _ ih => (refine xAA ih fun a b c => ?_; clear ih); exact (iAA (by simp [zau, zaw, a]) (by simp [zgl, zbc]; walk_at "o") (by simp [zaH, zaG]; walk_at "o"))
 | chan _ ih => (refine xAA ih fun a b c => ?_; clear ih); exact (iAA (by simp [zau, zaw, a]) (by simp [zgl, zbc]; walk_at "o") (by simp [zaH, zaG]; walk_at "o"))
 | func _ ih => (refine xAA ih fun a b c => ?_; clear ih); exact (iAA (by simp [zau, zaw, a]) (by simp [zgl, zbc]; walk_at "o") (by simp [zaH, zaG]; walk_at "o"))
 | struct _ ih => (refine xAA ih fun a b c => ?_; clear ih); exact (iAA (by simp [zau, zaw, a]) (by simp [zgl, zbc]; walk_at "o") (by simp [zaH, zaG]; walk_at "o"))
theorem zjL {B : zan} {A : Around} {r : Led} {Ψ : XQ} {Φ : EQ} (hK : KF B.K) (hB : B.tabs = zjQ) (hr : A.depth + 100 < recursionLimit) (hh : A.handled = none) (hu : A.units + 100 < cLine) {w wd s2 nd c0 c1 c2 c3 c4 c5 c6 c7 lk lp lz : Addr} {n : Nat} {W T : AV} {K G : List AV} (hn : n ≤ 3) (hRd : Rd n W T K G)
  (hw : (w, zaa.inst 664 wd) ∈ r) (hwd : (wd, zaa.dict (zaJ nd c0 c1 c2 c3 c4 c5 c6 c7 (.ref lk) (.ref lp) (.ref lz))) ∈ r) (hi : zcm s2 "int" (.tup [.str "type", .tup [.str "int", .str "int"]]) r) (hs : zcm s2 "string" (.tup [.str "type", .tup [.str "string"]]) r)
  (h : ∀ ps, Φ T ((438, zaa.raw (tabObj ps)) :: (lz, zaa.list G) :: (lk, zaa.list K) :: r)) : Fn B A (.ref 443) [.ref w, .str "m", .ref s2, W] ((438, zaa.raw (tabObj #[])) :: (lz, zaa.list []) :: (lk, zaa.list []) :: r) Φ Ψ := by
 refine zj7 hK (by walk_at "d") fun L a0 a1 a2 e hf hc Fo => ?_
 show Ex _ _ _ _ (_ :: _) _ _
 have hh2 : (A.deeper e).handled = none := hh
 have pct : zaj B.K 328 = true := (kg hK 272)
 have hRd2 := hRd.told
 have hlen := hRd.len
 walk_at "g"
 refine zal Fo (by walk_at "m") (zad (kg hK 273)) ?_
 walk_at "g"
 refine zfF Fo (c := 442) (P := 438) (cl' := [("world", a2), ("scope", a0), ("package", a1)]) rfl (hc.trans (kg hK 301)) (by rwa [hB]; exact .head _) (.tail (.tail (.tail (.tail .head)))) rfl (fun p hp => by (simp only [List.mem_cons, List.not_mem_nil, or_false] at hp ⊢; rcases hp with rfl | rfl | rfl <;> simp)) (by simp) fun fn c' oc ctv pm qual ps ho => ?_
 walk_at "g"
 refine ⟨zac (kg hK 271), zab (zjN hK (by walk_at "d") fun x d => ?_)⟩
 walk_at "g"
 refine zao (C := 328) (d := d) (by walk_at "m") (by walk_at "m") ((kg hK 274)) ((kg hK 275)) pct (zak ["world", "scope", "const_reader"] rfl (by decide)) ?_
 walk_at "g"
 refine ⟨zac (kg hK 276), zab (zbH (l' := (lz, zaa.list []) :: (lk, zaa.list []) :: _) (Le.pick (pzt pz1) (Le.pick (pzt pz1) Le.refl)) ?_)⟩
 have hR : ∀ l1 : Led, (∀ p ∈ r, p ∈ l1) → (x, zaa.inst 328 d) ∈ l1 → (d, zaa.dict (zqb w s2 fn)) ∈ l1 → Rdr x d w wd s2 fn lk lp lz l1 := fun l1 hp h1 h2 => ⟨h1, h2, hp _ hw, ⟨nd, c0, c1, c2, c3, c4, c5, c6, c7, (hp _ hwd)⟩, hi.up hp, hs.up hp⟩
 refine zm3 hK (hR _ (fun p hp => by walk_at "m") (.head _) mz1) (fun A' l1 i Φ' Ψ' hb hd2 hh3 hΦ => ?_) n (by walk_at "o") hRd (by show A.depth + 1 + 4 * n + 30 < _; walk_at "o") hh2 (by show A.units + 3 + 10 * n + 60 < _; walk_at "o") (fun p hp => hp) (by simp; walk_at "o") (by simp; walk_at "o") ?_
 ·refine ⟨zeR (hb _ mz2), zab ?_⟩
  refine zkK (ps := ["expr"]) (gs' := ["const_of"]) (cs := ["world", "scope", "package"]) (by walk_at "o") (hb _ mz2) (hb _ mz3) ho (by decide +kernel) rfl rfl (fun vs hv => ?_) fun L2 e2 hf2 Fo2 => ?_
  ·refine xE (zk3 hv) fun v0 yq162 => ?_
   subst yq162
   walk_at "r"
  ·have m0 := hb _ mz5
   have m1 := hb _ mz6
   have m2 := hb _ mz7
   have hh4 : (A'.deeper e2).handled = none := hh3
   show Ev _ _ _ ((L2, zaa.ns [("expr", some (.tup [.str "int", .int 0, .int i]))]) :: l1) _ _ _
   walk_at "g"
   refine zal Fo2 (by walk_at "m") (zad (kg hK 253)) ?_
   walk_at "g"
   refine zgt Fo2 (by walk_at "m") (.tail _ m2) ?_
   walk_at "g"
   refine zgt Fo2 (by walk_at "m") (.tail _ m1) ?_
   walk_at "g"
   refine zgt Fo2 (by walk_at "m") (.tail _ m0) ?_
   walk_at "g"
   refine ⟨zac (kg hK 254), zab (zjm hK (by show A'.depth + 1 + 4 < _; walk_at "o") hh4 ?_)⟩
   exact ⟨_, Le.skip Le.refl, hΦ⟩
 ·walk_at "s"
  refine zai ?_
  walk_at "s"
  refine zal Fo (by walk_at "m") (zad (kg hK 257)) ?_
  walk_at "s"
  refine zn6 hRd.head fun k sp rr yq163 => ?_
  subst yq163
  walk_at "s"
  refine zjU (j := 1) (x := .int sp) (by rwa [List.length_cons, List.length_cons]; exact zgA _) rfl (by decide) ?_ (by intro _ _; walk_at "r")
  walk_at "s"
  refine ⟨zac (kg hK 258), zab (zmK hK (by walk_at "d") hh2 (by walk_at "d") hRd2.1 (by walk_at "o") (by walk_at "o") ?_)⟩
  walk_at "g"
  exact ⟨_, Le.pick (pzt pz2) (lz0 (lz0 (by walk_at "e"))), h ps⟩
noncomputable abbrev ziq : Str → Option Ty := fun _ => none
noncomputable abbrev σ0 : Str → Option (Int × Int) := fun _ => none
noncomputable abbrev co0 : Str → Nat := fun _ => 0
theorem zqc : zk8 ziq σ0 co0 := ⟨(fun _ _ e => by cases e), (fun _ _ e => by cases e)⟩
theorem zoz {w wd nd : Addr} {wes nes : List (Str × AV)} {l : Led} (hw : (w, zaa.inst 664 wd) ∈ l) (hwd : (wd, zaa.dict wes) ∈ l) (hk : wes.map (·.1) = zar) (hn : (("named" : Str), AV.ref nd) ∈ wes) (hnd : (nd, zaa.dict nes) ∈ l) : zgj w ziq l :=
 ⟨(zdP wd nd wes nes hw hwd hk hn hnd (fun _ _ e => by cases e)), fun _ _ e => by cases e⟩
noncomputable def znL (L w lf mt : Addr) (l : Led) (n : Nat) (l' : Led) : Prop :=
 (n = 1 ∧ l' = (mt, zaa.list []) :: (lf, zaa.list [zfs]) :: (L, zaa.ns [("world", some (.ref w)), ("T", some zfs), ("left", some (.ref lf)), ("met", some (.ref mt)), ("here", none), ("inner", none)]) :: l) ∨
 (n = 0 ∧ l' = (mt, zaa.list [zfs]) :: (lf, zaa.list []) :: (L, zaa.ns [("world", some (.ref w)), ("T", some zfs), ("left", some (.ref lf)), ("met", some (.ref mt)), ("here", some zfs), ("inner", some zfs)]) :: l)
theorem zkz {B : zan} {A : Around} {l : Led} {Ψ : XQ} {Φ : EQ} (hK : KF B.K) (hr : A.depth + 6 < recursionLimit) (hh : A.handled = none) (hu : A.units + 60 < cLine) {w : Addr} (hW : zgj w ziq l)
  (h : Φ (.bool true) l) : Fn B A (.ref 97) [.ref w, zfs] l Φ Ψ := by
 refine zeB hK (by walk_at "d") fun L e hf hc Fo => ?_
 show Ex _ _ _ _ (_ :: _) _ _
 have hh2 : (A.deeper e).handled = none := hh
 refine zai ?_
 refine zav hh2 (za1 Fo.kind (Fo.loc _ (by walk_at "m")) (Fo.loc _ (by walk_at "m")) (by walk_at "r") (by decide) (by walk_at "r") (by walk_at "r") (by walk_at "r") (by walk_at "r")) ?_
 walk_at "g"
 intro lf
 walk_at "g"
 intro mt
 walk_at "g"
 refine ⟨_, rfl, rfl, ?_⟩
 show Sr _ _ _ [_, _] [_, _] _ _ _
 walk_at "s"
 refine zai ?_
 refine zdy (znL L w lf mt l) 1 (fun _ _ x => x.elim) (.inl ⟨rfl, rfl⟩) fun n l' hI => ?_
 rcases hI with ⟨rfl, rfl⟩ | ⟨rfl, rfl⟩
 ·walk_at "g"
  intro z
  walk_at "g"
  refine zbT (by walk_at "m") (by walk_at "m") (by walk_at "d") ?_
  walk_at "g"
  refine zfC (by walk_at "m") ?_
  walk_at "g"
  refine ⟨zap, zfJ (xs := []) (.tail (.tail .head)) (by show 0 ≤ 10 ^ 6; decide) ?_⟩
  walk_at "g"
  refine zdM (by walk_at "m") rfl rfl (by show A.units + 3 + _ + _ + 1 < _; simp [zaH, zaG]; walk_at "o") ?_
  walk_at "g"
  refine zbb (by walk_at "m") ?_
  walk_at "g"
  refine ⟨zap, za3 uz1 (by show 0 ≤ 10 ^ 6; decide) ?_⟩
  walk_at "g"
  refine zal Fo (by walk_at "m") (zad (kg hK 142)) ?_
  walk_at "g"
  refine ⟨zac (kg hK 141), zab (zfR (env := ziq) (T := .leaf zfs) (U := .leaf zfs) hK (by walk_at "d") (by walk_at "d") (hW.up fun p hp => .tail _ (.tail _ (.tail _ (.tail _ hp)))) (by show zeP _; exact ⟨by decide, by decide, by decide⟩) rfl ?_)⟩
  rwa [show zaC (.leaf zfs) = zfs from rfl]
  walk_at "g"
  refine zbG (by decide) rfl (by show A.units + 3 + _ + _ + 1 < _; simp [zaH, zaG]; walk_at "o") ?_
  walk_at "g"
  refine zat ?_
  walk_at "g"
  refine zat ?_
  walk_at "g"
  exact ⟨0, _, Nat.zero_lt_one, Le.skip Le.refl, .inr ⟨rfl, rfl⟩⟩
 ·walk_at "g"
  intro z
  walk_at "g"
  refine zbT (by walk_at "m") (by walk_at "m") (by walk_at "d") ?_
  walk_at "g"
  exact ⟨_, by walk_at "e", h⟩
theorem zgh {B : zan} {A : Around} {env : Env} {l : Led} {Ψ : XQ} {o : Expr} {attr : Str} {p : Pos} {v : AV} {Φ : Unit → Led → Prop} (h : Ev B A env l o (fun a l1 => znW B A attr a v l1 Φ Ψ) Ψ) : As B A env (.Attribute o attr p) v l Φ Ψ := fun s u G r => by
 rwa [assign_Attribute]
 refine wpAny_bind (wpAny_holding (zaE (h.go s G) (Ext.refl _) (fun ov a l1 s1 x1 r1 G1 h1 => ?_) fun _ _ e => e))
 refine wpAny_bind (wpAny_standAt (wpAny_bind (wpAny_holding ?_)))
 exact wpAny_mono (h1 s1 ov u G1 r1 (r.mono x1)) (fun _ _ r => wpAny_release' (r.ext x1)) fun _ _ r => r.ext x1
noncomputable abbrev gAV (g : Ty × Int) : AV := .tup [zaC g.1, .int g.2]
noncomputable abbrev zl2 (a b c kn L w wd nd c0 c1 c2 c3 c4 c5 c6 c7 lk lp lz : Addr) (ks : List AV) (gs : List (Ty × Int)) (tv sv : Option AV) (es : List (Str × AV)) (r : Led) : Led :=
 (c, zaa.list []) :: (b, zaa.list []) :: (a, zaa.list []) :: (kn, zaa.dict es) :: (L, zaa.ns [("world", some (.ref w)), ("keys", some (.ref lk)), ("parts", some (.ref lp)), ("greats", some (.ref lz)), ("known", some (.ref kn)), ("told", tv), ("spot", sv)]) ::
  (wd, zaa.dict (zaJ nd c0 c1 c2 c3 c4 c5 c6 c7 (.ref a) (.ref b) (.ref c))) :: (lk, zaa.list ks) :: (lp, zaa.list []) :: (lz, zaa.list (gs.map gAV)) :: r
theorem zku {es : List (Str × AV)} (h : zaQ ziq σ0 es) : es = [] := by
 cases es with
 | nil => rfl
 | cons p r => (refine zdx (h p.1 p.2 (.head _)) fun q _ h2 _ => ?_); cases h2
set_option maxHeartbeats 1000000 in
theorem zl4 {B : zan} {A : Around} {r : Led} {Ψ : XQ} {Φ : EQ} (hK : KF B.K) (hr : A.depth + 20 < recursionLimit) (hh : A.handled = none) (hu : A.units + 120 < cLine) {fr : List Env} (hfr : A.frames = some fr) (F : FrL r fr)
  {w wd nd c0 c1 c2 c3 c4 c5 c6 c7 lk lp lz : Addr} {nes : List (Str × AV)} {ks : List AV} {gs : List (Ty × Int)} (hnd : (nd, zaa.dict nes) ∈ r) (hw : (w, zaa.inst 664 wd) ∈ r)
  (hks : ∀ k ∈ ks, k = .tup [zfs, .int 0]) (hgs : ∀ g ∈ gs, Wf ziq g.1)
  (h1 : (∀ g ∈ gs, (szT σ0 g.1).isSome = true) → ∀ a b c, Φ .none ((wd, zaa.dict (zaJ nd c0 c1 c2 c3 c4 c5 c6 c7 (.ref a) (.ref b) (.ref c))) :: (a, zaa.list []) :: (b, zaa.list []) :: (c, zaa.list []) :: r))
  (h2 : ∀ (i : Nat) T sp, gs[i]? = some (T, sp) → szT σ0 T = none → (∀ (j : Nat), j < i → ∀ g : Ty × Int, gs[j]? = some g → (szT σ0 g.1).isSome = true) → ∀ x d msg a b c, Ψ ⟨x, 64, d⟩ ((x, zaa.exc 64 d) :: (d, zaa.dict [("message", msg), ("spot", .int sp)]) :: (wd, zaa.dict (zaJ nd c0 c1 c2 c3 c4 c5 c6 c7 (.ref a) (.ref b) (.ref c))) :: (a, zaa.list []) :: (b, zaa.list []) :: (c, zaa.list []) :: r)) :
  Fn B A (.ref 497) [.ref w] ((wd, zaa.dict (zaJ nd c0 c1 c2 c3 c4 c5 c6 c7 (.ref lk) (.ref lp) (.ref lz))) :: (lk, zaa.list ks) :: (lp, zaa.list []) :: (lz, zaa.list (gs.map gAV)) :: r) Φ Ψ := by
 refine zdF hK (by walk_at "d") fun L e hf hc Fo => ?_
 show Ex _ _ _ _ (_ :: _) _ _
 have hh2 : (A.deeper e).handled = none := hh
 have hfr2 : (A.deeper e).frames = some (e :: fr) := by show A.frames.map (e :: ·) = _; rwa [hfr]; rfl
 have pcw : zaj B.K 664 = true := (kg hK 133)
 have fiw : ∀ x ∈ zar, findIn B.K (.ref 664) x = some none := (kg hK 202)
 have taw : ∀ x ∈ zar, takerIn B.K 664 x = some none := (kg hK 201)
 refine zai ?_
 refine zaL ?_ (by walk_at "r") (by rwa [zh0]; walk_at "r")
 walk_at "s"
 refine zaq (d := wd) (.tail _ (.tail _ (.tail _ (.tail _ (.tail _ hw))))) (by walk_at "m") (by walk_at "m") ?_ pcw (fiw _ (by delta zar; walk_at "m"))
 walk_at "s"
 refine zaq (d := wd) (.tail _ (.tail _ (.tail _ (.tail _ (.tail _ hw))))) (by walk_at "m") (by walk_at "m") ?_ pcw (fiw _ (by delta zar; walk_at "m"))
 walk_at "s"
 refine zaq (d := wd) (.tail _ (.tail _ (.tail _ (.tail _ (.tail _ hw))))) (by walk_at "m") (by walk_at "m") ?_ pcw (fiw _ (by delta zar; walk_at "m"))
 walk_at "s"
 intro kn
 walk_at "s"
 refine zai ?_
 refine zaL ?_ (by walk_at "r") (zcv (by show (0 : Nat) ≠ 3; decide))
 walk_at "s"
 intro a
 walk_at "s"
 intro b
 walk_at "s"
 intro c
 walk_at "s"
 refine zgh ?_
 walk_at "s"
 refine zam (es' := zaJ nd c0 c1 c2 c3 c4 c5 c6 c7 (.ref a) (.ref lp) (.ref lz)) (by walk_at "m") (.tail (.tail (.tail (.tail (.tail .head))))) pcw (taw _ (by delta zar; walk_at "m")) (fun rk nd r => zbe (nzt nz3) rk nd r) (by simp) ?_
 walk_at "s"
 refine zgh ?_
 walk_at "s"
 refine zam (es' := zaJ nd c0 c1 c2 c3 c4 c5 c6 c7 (.ref a) (.ref b) (.ref lz)) (by walk_at "m") (.tail (.tail (.tail (.tail (.tail .head))))) pcw (taw _ (by delta zar; walk_at "m")) (fun rk nd r => zbe (nzt nz4) rk nd r) (by simp) ?_
 walk_at "s"
 refine zgh ?_
 walk_at "s"
 refine zam (es' := zaJ nd c0 c1 c2 c3 c4 c5 c6 c7 (.ref a) (.ref b) (.ref c)) (by walk_at "m") (.tail (.tail (.tail (.tail (.tail .head))))) pcw (taw _ (by delta zar; walk_at "m")) (fun rk nd r => zbe (nzt nz5) rk nd r) (by simp) ?_
 walk_at "s"
 refine zai ?_
 refine zd9 (fun _ _ x => x.1) ?_ (by intro _; walk_at "r")
 walk_at "s"
 refine ⟨ks, _, fun _ l' => ∃ tv sv, l' = zl2 a b c kn L w wd nd c0 c1 c2 c3 c4 c5 c6 c7 lk lp lz ks gs tv sv [] r, _, fun _ => True, zbx hh2 (by walk_at "m"), trivial, (iEE none none rfl), ?_, ?_, ?_⟩
 ·intro i l' zq26
  revert l'
  refine zof fun tv sv => ?_
  walk_at "m"
 ·intro i y ls l' hy zq27
  revert l'
  refine zof fun tv sv => ?_
  obtain rfl := hks y (List.mem_of_getElem? hy)
  walk_at "s"
  refine zai ?_
  walk_at "s"
  refine zcq ?_ (by intro _; walk_at "r")
  walk_at "s"
  refine zal Fo (by walk_at "m") (zad (kg hK 302)) ?_
  walk_at "s"
  refine ⟨zac (kg hK 303), zab (zkz hK (by walk_at "d") hh2 (by walk_at "d") (zoz (wd := wd) (nd := nd) (wes := zaJ nd c0 c1 c2 c3 c4 c5 c6 c7 (.ref a) (.ref b) (.ref c)) (nes := nes) (by walk_at "m") (by walk_at "m") rfl (by walk_at "m") (by walk_at "m")) ?_)⟩
  walk_at "s"
  exact ⟨_, Le.refl, _, _, rfl⟩
 intro l' zq28
 revert l'
 refine zof fun tv sv => ?_
 walk_at "s"
 refine zai ?_
 refine zd9 (fun _ _ x => x.1) ?_ (by intro _; walk_at "r")
 walk_at "s"
 refine ⟨[], _, fun _ l' => l' = zl2 a b c kn L w wd nd c0 c1 c2 c3 c4 c5 c6 c7 lk lp lz ks gs tv sv [] r, _, fun _ => True, zbx (a := lp) hh2 (by walk_at "m"), trivial, rfl, ?_, fun i y ls l' hy => (by cases hy), ?_⟩
 ·rintro i l' rfl; walk_at "m"
 rintro l' rfl
 walk_at "s"
 refine zai ?_
 refine zd9 (fun _ _ x => x.1) ?_ (by intro _; walk_at "r")
 walk_at "s"
 refine ⟨gs.map gAV, _, fun i l' => ∃ tv sv, (∀ (j : Nat), j < i → ∀ g : Ty × Int, gs[j]? = some g → (szT σ0 g.1).isSome = true) ∧ l' = zl2 a b c kn L w wd nd c0 c1 c2 c3 c4 c5 c6 c7 lk lp lz ks gs tv sv [] r, _, fun _ => True, zbx hh2 (by walk_at "m"), trivial, (zk4 tv sv (fun j hj => absurd hj (Nat.not_lt_zero _)) rfl), ?_, ?_, ?_⟩
 ·intro i l' zq29
  revert l'
  refine zhi fun tv sv _ => ?_
  walk_at "m"
 ·intro i y ls l' hy zq30
  revert l'
  refine zhi fun tv sv hall => ?_
  rw [List.getElem?_map] at hy
  cases hg : gs[i]? with
  | none => rw [hg] at hy; cases hy
  | some g =>
   rw [hg] at hy
   cases hy
   obtain ⟨T, sp⟩ := g
   have hT : Wf ziq T := hgs _ (List.mem_of_getElem? hg)
   walk_at "s"
   refine zai ?_
   walk_at "s"
   refine zal Fo (by walk_at "m") (zad (kg hK 166)) ?_
   walk_at "s"
   refine ⟨zac (kg hK 167), zab (zbH (l' := (kn, zaa.dict []) :: _) (Le.pick (.app pz3) Le.refl) (zjZ (T0 := T) hK (by walk_at "d") hh2 (by walk_at "d") hfr2 (FrL.cons Fo.kind hf (by walk_at "m") (F.le fun p hp => by walk_at "m")) zqc (zoz (wd := wd) (nd := nd) (wes := zaJ nd c0 c1 c2 c3 c4 c5 c6 c7 (.ref a) (.ref b) (.ref c)) (nes := nes) (by walk_at "m") (by walk_at "m") rfl (by walk_at "m") (by walk_at "m")) hT (fun p v hm => (nomatch hm)) (fun es hes _ => by rwa [zku hes]; exact Nat.zero_le _) ?_ ?_))⟩
   ·intro q es hq hes _ _
    obtain rfl := zku hes
    walk_at "s"
    exact ⟨zl2 a b c kn L w wd nd c0 c1 c2 c3 c4 c5 c6 c7 lk lp lz ks gs _ _ [] r, Le.turn (Le.pick (.tail (.app .head)) (Le.turn (Le.pick (.tail (.app .head)) (Le.turn (Le.pick (.tail (.app .head)) (Le.turn (lz0 Le.refl))))))), _, _, fun j hj g hgj => by
     by_cases hji : j < i
     ·exact hall j hji g hgj
     ·have : j = i := by walk_at "o"
      subst this
      rw [hg] at hgj
      cases hgj
      exact (congrArg Option.isSome hq).trans rfl, rfl⟩
   ·intro hq x d msg es hes _
    obtain rfl := zku hes
    exact ⟨(iEA fr hfr2 (FrL.cons Fo.kind hf (by walk_at "m") (F.le fun p hp => by walk_at "m"))), _, lz0 (lz0 (Le.pick (.tail (.app pz4)) (Le.pick (.tail (.app pz2)) (Le.pick (.tail (.app pz1)) (Le.pick (.tail (.app .head)) (Le.skip (Le.drop (Le.skip (Le.skip (Le.skip (Le.skip Le.refl))))))))))), .head _, h2 i T sp hg hq hall x d msg a b c⟩
 intro l' zq31
 revert l'
 refine zhi fun tv sv hall => ?_
 walk_at "g"
 rw [List.length_map] at hall
 exact ⟨_, lz5 (lz2 (lz1 (lz0 (Le.skip (Le.skip (Le.skip (Le.skip (Le.skip Le.refl)))))))), h1 (fun g hg => by
  refine xE (List.getElem?_of_mem hg) fun j hj => ?_
  exact hall j (List.getElem?_eq_some_iff.mp hj).1 g hj) a b c⟩
noncomputable abbrev ziL : Ty := .leaf zpX
noncomputable abbrev tA (i : Int) (t : Ty) : Ty := .arr i t
noncomputable abbrev tS (t : Ty) : Ty := .struct [("x", t)]
theorem zjR {two : Int} (h : 0 ≤ two ∧ two ≤ 2 ^ 20) : szT σ0 (tA two ziL) = some (max 1 two, 2) := by
 simp only [szT, zaU, List.any_cons, List.any_nil, List.map_cons, List.map_nil, zbw, lvF, List.sum_cons, List.sum_nil, List.foldl_cons, List.foldl_nil]
 simp
 walk_at "o"
theorem zmm {one two : Int} (h1 : 0 ≤ one ∧ one ≤ 2 ^ 20) (h : 0 ≤ two ∧ two ≤ 2 ^ 20) : szT σ0 (tA one (tA two ziL)) = if max 1 one * max 1 two ≤ 2 ^ 20 then some (max 1 one * max 1 two, 3) else none := by
 show zaU [(szT σ0 (tA two ziL), max 1 one)] = _
 rwa [zjR h]
 have hp : 1 ≤ max 1 one * max 1 two := by
  have := Int.mul_le_mul (show 1 ≤ max 1 one by walk_at "o") (show 1 ≤ max 1 two by walk_at "o") (by decide) (by walk_at "o")
  walk_at "o"
 simp only [zaU, List.any_cons, List.any_nil, List.map_cons, List.map_nil, zbw, lvF, List.sum_cons, List.sum_nil, List.foldl_cons, List.foldl_nil]
 simp
 generalize max 1 one * max 1 two = m at hp ⊢
 by_cases hm : m ≤ 1048576
 ·rwa [if_neg (by walk_at "o"), if_pos hm, show max 1 m = m by walk_at "o"]; rfl
 ·rwa [if_pos (by walk_at "o"), if_neg hm]
theorem zml {t : Ty} {q : Int × Int} (h : szT σ0 t = some q) (h1 : 1 ≤ q.1 ∧ q.1 ≤ 2 ^ 20) (h2 : 0 ≤ q.2 ∧ q.2 ≤ 50) : (szT σ0 (tS t)).isSome = true := by
 have e : szT σ0 (tS t) = zaU [(szT σ0 t, 1)] := rfl
 rwa [e, h]
 simp only [zaU, List.any_cons, List.any_nil, List.map_cons, List.map_nil, zbw, lvF, List.sum_cons, List.sum_nil, List.foldl_cons, List.foldl_nil]
 simp
 walk_at "o"
structure zg6 (gs : List (Ty × Int)) (m : Int) : Prop where
 wf : ∀ g ∈ gs, Wf ziq g.1
 yes : m ≤ 2 ^ 20 → ∀ g ∈ gs, (szT σ0 g.1).isSome = true
 no : ¬ m ≤ 2 ^ 20 → ∃ g ∈ gs, szT σ0 g.1 = none
 at_ : ∀ (i : Nat) T sp, gs[i]? = some (T, sp) → szT σ0 T = none → (∀ (j : Nat), j < i → ∀ g : Ty × Int, gs[j]? = some g → (szT σ0 g.1).isSome = true) → sp = 5
noncomputable abbrev zdT (one two : Int) : AV := .tup [.str "array", .int 5, .tup [.str "int", .int 0, .int one], .tup [.str "array", .int 6, .tup [.str "int", .int 0, .int two], zra]]
noncomputable abbrev zdW (one two : Int) : AV := .tup [.str "array", .int one, .tup [.str "array", .int two, zpX]]
noncomputable abbrev gs2 (one two : Int) : List (Ty × Int) := [(tA two ziL, 6), (tA one (tA two ziL), 5)]
noncomputable abbrev gs3 (one two : Int) : List (Ty × Int) := [(tA two ziL, 6), (tA one (tA two ziL), 5), (tS (tA one (tA two ziL)), 4)]
theorem wfA {one two : Int} (h1 : 0 ≤ one ∧ one ≤ 2 ^ 20) (h2 : 0 ≤ two ∧ two ≤ 2 ^ 20) : Wf ziq (tA two ziL) ∧ Wf ziq (tA one (tA two ziL)) ∧ Wf ziq (tS (tA one (tA two ziL))) := by
 have a : Wf ziq (tA two ziL) := ⟨h2, by show zeP _; exact ⟨by decide, by decide, by decide⟩⟩
 have b : Wf ziq (tA one (tA two ziL)) := ⟨h1, a⟩
 exact ⟨a, b, by show 1 ≤ 100; decide, b, trivial⟩
theorem zqp {one two : Int} (h1 : 0 ≤ one ∧ one ≤ 2 ^ 20) (h2 : 0 ≤ two ∧ two ≤ 2 ^ 20) : zg6 (gs2 one two) (max 1 one * max 1 two) := by
 refine xAA (wfA h1 h2) fun w1 w2 w3 => ?_
 have s1 := zjR h2
 have s2 := zmm h1 h2
 refine ⟨fun g hg => ?_, fun hm g hg => ?_, fun hm => (iEA _ mz1 (by (rewrite [s2, if_neg hm]; with_reducible rfl))), fun i T sp hi hz hall => ?_⟩
 ·simp only [List.mem_cons, List.not_mem_nil, or_false] at hg
  rcases hg with rfl | rfl <;> assumption
 ·simp only [List.mem_cons, List.not_mem_nil, or_false] at hg
  rcases hg with rfl | rfl
  ·rwa [s1]; rfl
  ·rwa [s2, if_pos hm]; rfl
 ·match i, hi with
  | 0, hi => cases hi; rw [s1] at hz; cases hz
  | 1, hi => cases hi; rfl
theorem zqo {one two : Int} (h1 : 0 ≤ one ∧ one ≤ 2 ^ 20) (h2 : 0 ≤ two ∧ two ≤ 2 ^ 20) : zg6 (gs3 one two) (max 1 one * max 1 two) := by
 refine xAA (wfA h1 h2) fun w1 w2 w3 => ?_
 have s1 := zjR h2
 have s2 := zmm h1 h2
 have hp : 1 ≤ max 1 one * max 1 two := by
  have := Int.mul_le_mul (show 1 ≤ max 1 one by walk_at "o") (show 1 ≤ max 1 two by walk_at "o") (by decide) (by walk_at "o")
  walk_at "o"
 refine ⟨fun g hg => ?_, fun hm g hg => ?_, fun hm => (iEA _ mz1 (by (rewrite [s2, if_neg hm]; with_reducible rfl))), fun i T sp hi hz hall => ?_⟩
 ·simp only [List.mem_cons, List.not_mem_nil, or_false] at hg
  rcases hg with rfl | rfl | rfl <;> assumption
 ·simp only [List.mem_cons, List.not_mem_nil, or_false] at hg
  rcases hg with rfl | rfl | rfl
  ·rwa [s1]; rfl
  ·rwa [s2, if_pos hm]; rfl
  ·rw [if_pos hm] at s2
   exact zml s2 ⟨hp, hm⟩ ⟨by show (0 : Int) ≤ 3; decide, by show (3 : Int) ≤ 50; decide⟩
 ·match i, hi with
  | 0, hi => cases hi; rw [s1] at hz; cases hz
  | 1, hi => cases hi; rfl
  | 2, hi =>
   cases hi
   have := hall 1 (by decide) _ rfl
   by_cases hm : max 1 one * max 1 two ≤ 2 ^ 20
   ·rw [if_pos hm] at s2
    have := zml s2 ⟨hp, hm⟩ ⟨by show (0 : Int) ≤ 3; decide, by show (3 : Int) ≤ 50; decide⟩
    rw [hz] at this; cases this
   ·dsimp only at this
    rw [s2, if_neg hm] at this; cases this
noncomputable def zka (one two : Int) : List AV := [.tup [zdT one two, zdW one two], .tup [.tup [.str "ptr", .int 0, zdT one two], .tup [.str "ptr", zdW one two]], .tup [.tup [.str "slice", .int 0, zdT one two], .tup [.str "slice", zdW one two]],
 .tup [.tup [.str "map", .int 0, zmP, zdT one two], .tup [.str "map", zfs, zdW one two]], .tup [.tup [.str "chan", .int 0, .str "both", zdT one two], .tup [.str "chan", .str "both", zdW one two]],
 .tup [.tup [.str "func", .int 0, .tup [zdT one two], .tup [], .bool false], .tup [.str "func", .tup [zdW one two], .tup [], .bool false]], .tup [.tup [.str "struct", .int 4, .tup [.tup [.str "x", zdT one two, .bool false]]], zjW (zdW one two)]]
theorem zlz {one two : Int} (h1 : 0 ≤ one ∧ one ≤ 2 ^ 20) (h2 : 0 ≤ two ∧ two ≤ 2 ^ 20) {x : AV} (hx : x ∈ zka one two) :
  ∃ (W T : AV) (K : List AV) (gs : List (Ty × Int)), x = .tup [W, T] ∧ Rd 3 W T K (gs.map gAV) ∧ (∀ k ∈ K, k = .tup [zfs, .int 0]) ∧ zg6 gs (max 1 one * max 1 two) := by
 have r0 : ∀ n, Rd (n + 2) (zdT one two) (zdW one two) [] ((gs2 one two).map gAV) := fun n => .arr (G := [.tup [zqI two zpX, .int 6]]) h1 (.arr (G := []) h2 .int)
 have l2 := zqp h1 h2
 have l3 := zqo h1 h2
 simp only [zka, List.mem_cons, List.not_mem_nil, or_false] at hx
 rcases hx with rfl | rfl | rfl | rfl | rfl | rfl | rfl
 ·exact (zci _ _ _ _ rfl (r0 1) (fun k hk => nomatch hk) l2)
 ·exact (zci _ _ _ _ rfl (.ptr (r0 0)) (fun k hk => nomatch hk) l2)
 ·exact (zci _ _ _ _ rfl (.slice (r0 0)) (fun k hk => nomatch hk) l2)
 ·exact (zci _ _ _ _ rfl (.map (r0 0)) (fun k hk => List.mem_singleton.mp hk) l2)
 ·exact (zci _ _ _ _ rfl (.chan (r0 0)) (fun k hk => nomatch hk) l2)
 ·exact (zci _ _ _ _ rfl (.func (r0 0)) (fun k hk => nomatch hk) l2)
 ·exact (zci _ _ _ (gs3 one two) rfl (.struct (r0 0)) (fun k hk => nomatch hk) l3)
noncomputable def zfk (m : Int) : AV := if m ≤ 2 ^ 20 then .none else .int 5
theorem zkR (m : Int) : zau (zfk m) = true ∧ zaH (zfk m) = 0 := by unfold zfk; split <;> exact ⟨rfl, rfl⟩
theorem zqq : zg6 [] 0 := ⟨(fun _ h => nomatch h), (fun _ _ h => nomatch h), (fun h => absurd (show (0 : Int) ≤ 2 ^ 20 by decide) h), (fun i T sp hi => by cases hi)⟩
theorem zfS {env : Env} {a b c : Str} {p q r : Pos} {vs : List Expr} {k k2 : Nat} {tp vp : Pos} (hc : env.kindOf c = some .cell) : swappedStores [.Tuple [.Name a p, .Name b q, .Name c r] k tp] (.Tuple vs k2 vp) env = pure none := zcv (by
 have h3 : zaD env p.line (.Name c r) = none := by simp [zaD, hc]
 show (List.filterMap (zaD env p.line) ([.Name a p, .Name b q] ++ [.Name c r])).length ≠ 3
 intro z
 rw [List.filterMap_append, List.filterMap_cons_none h3, List.filterMap_nil, List.append_nil] at z
 have h4 := List.length_filterMap_le (zaD env p.line) [.Name a p, .Name b q]
 rw [z] at h4
 exact absurd h4 (by show ¬ 3 ≤ 2; decide))
theorem zij {s d rd s2 d2 rd2 : Addr} {us : List zk7} {n : Str} {en : AV} {r l : Led} (hn : (n, en) ∈ zdB us) (h : ∀ p ∈ zcW s2 d2 rd2 (.ref s) [] (zcW s d rd .none us r), p ∈ l) : zcm s2 n en l := by
 refine xEA (List.mem_map.mp hn) fun u hu e => ?_
 cases e
 have hm : ∀ p ∈ zcW s d rd .none us r, p ∈ l := fun p hp => h p (.tail _ (.tail _ (.tail _ hp)))
 have hc : ∀ p ∈ zcM us, p ∈ l := fun p hp => hm p (.tail _ (.tail _ (.tail _ (List.mem_append_left _ hp))))
 have c1 : (u.x, zaa.inst 514 u.d) ∈ zcM us := List.mem_flatMap.mpr (iEA u hu (.head _))
 have c2 : (u.d, zaa.dict (zfu (.str u.n) u.e .none)) ∈ zcM us := List.mem_flatMap.mpr (iEA u hu mz1)
 exact ⟨d2, rd2, s, d, rd, (zdC us), u.x, u.d, .none, (h _ (.head _)), (h _ mz1), (h _ mz2), (hm _ (.head _)), (hm _ mz1), (hm _ mz2), (List.mem_map_of_mem (f := fun r : zk7 => (r.n, AV.ref r.x)) hu), (hc _ c1), (hc _ c2)⟩
theorem ziM {B : zan} {A : Around} {r : Led} {Ψ : XQ} {Φ : EQ} (hK : KF B.K) (hr : A.depth + 30 < recursionLimit) (hh : A.handled = none) (hu : A.units + 130 < cLine) {fr : List Env} (hfr : A.frames = some fr) (F : FrL r fr)
  {f c' cw w wd nd c0 c1 c2 c3 c4 c5 c6 c7 lk lp lz : Addr} {qual : Str} {params : Arguments} {scope : Scope} {pm ctv : Value} {oc : Obj} {p1 p2 p3 : Pos}
  (hf : (f, zaa.raw (zlG qual params (.Call (.Name "check_late_keys" p1) [.Name "world" p2] [] p3) scope [("world", cw)] pm c' ctv)) ∈ r) (hc : (c', zaa.raw oc) ∈ r) (ho : znX oc qual)
  (ok : zjd scope [] ["check_late_keys"] ["world"] = true)
  (hbind : bindArgs (kla_fn "<lambda>" qual params (.Call (.Name "check_late_keys" p1) [.Name "world" p2] [] p3) scope [("world", cw)] pm (.ref c') ctv) ⟨[], []⟩ = pure []) (hcw : (cw, zaa.cell (some (.ref w))) ∈ r)
  {nes : List (Str × AV)} {ks : List AV} {gs : List (Ty × Int)} (hnd : (nd, zaa.dict nes) ∈ r) (hw : (w, zaa.inst 664 wd) ∈ r)
  (hks : ∀ k ∈ ks, k = .tup [zfs, .int 0]) (hgs : ∀ g ∈ gs, Wf ziq g.1)
  (h1 : (∀ g ∈ gs, (szT σ0 g.1).isSome = true) → ∀ a b c, Φ .none ((wd, zaa.dict (zaJ nd c0 c1 c2 c3 c4 c5 c6 c7 (.ref a) (.ref b) (.ref c))) :: (a, zaa.list []) :: (b, zaa.list []) :: (c, zaa.list []) :: r))
  (h2 : ∀ (i : Nat) T sp, gs[i]? = some (T, sp) → szT σ0 T = none → (∀ (j : Nat), j < i → ∀ g : Ty × Int, gs[j]? = some g → (szT σ0 g.1).isSome = true) → ∀ a b c, Φ (.int sp) ((wd, zaa.dict (zaJ nd c0 c1 c2 c3 c4 c5 c6 c7 (.ref a) (.ref b) (.ref c))) :: (a, zaa.list []) :: (b, zaa.list []) :: (c, zaa.list []) :: r)) :
  Fn B A (.ref 734) [.ref f] ((wd, zaa.dict (zaJ nd c0 c1 c2 c3 c4 c5 c6 c7 (.ref lk) (.ref lp) (.ref lz))) :: (lk, zaa.list ks) :: (lp, zaa.list []) :: (lz, zaa.list (gs.map gAV)) :: r) Φ Ψ := by
 refine zjY hK (by walk_at "d") hh hfr (F.le fun p hp => by walk_at "m") (fun L n => zeR (by walk_at "m")) fun e L hfr2 F2 => zab ?_
 refine zkK (ps := []) (gs' := ["check_late_keys"]) (cs := ["world"]) (by walk_at "d") (by walk_at "m") (by walk_at "m") ho ok rfl rfl (fun vs hv => ?_) fun L2 e2 hf2 Fo2 => ?_
 ·rwa [List.eq_nil_of_length_eq_zero hv]; exact hbind
 ·have hfr3 : ((A.deeper e).deeper e2).frames = some (e2 :: e :: fr) := by show (A.deeper e).frames.map (e2 :: ·) = _; rwa [hfr2]; rfl
  refine zbE ((F2 e (.head _)).2) fun Lx mx hfx hmx => ?_
  have hke := (F2 e (.head _)).1
  have hmy : (Lx, zaa.ns mx) ∈ (L, zaa.ns [("call", some (.ref f)), ("fault", none)]) :: r := by
   rcases List.mem_cons.mp hmx with q | q
   ·rwa [q]; exact .head _
   ·rcases List.mem_cons.mp q with q | q
    ·cases q
    ·rcases List.mem_cons.mp q with q | q
     ·cases q
     ·rcases List.mem_cons.mp q with q | q
      ·cases q
      ·rcases List.mem_cons.mp q with q | q
       ·cases q
       ·exact .tail _ q
  have F3 : FrL ((L, zaa.ns [("call", some (.ref f)), ("fault", none)]) :: r) (e :: fr) := FrL.cons hke hfx hmy (F.le fun p hp => .tail _ hp)
  show Ev _ _ _ ((L2, zaa.ns []) :: _) _ _ _
  walk_at "s"
  refine zal Fo2 (by walk_at "m") (zad (kg hK 304)) ?_
  walk_at "s"
  refine zgt Fo2 (by walk_at "m") (by walk_at "m" : (cw, zaa.cell (some (.ref w))) ∈ _) ?_
  walk_at "s"
  refine ⟨zac (kg hK 305), zab (zbH (l' := (wd, zaa.dict (zaJ nd c0 c1 c2 c3 c4 c5 c6 c7 (.ref lk) (.ref lp) (.ref lz))) :: (lk, zaa.list ks) :: (lp, zaa.list []) :: (lz, zaa.list (gs.map gAV)) :: (L2, zaa.ns []) :: (L, zaa.ns [("call", some (.ref f)), ("fault", none)]) :: r) (lz2 (lz2 (lz2 (lz2 Le.refl))))
   (zl4 (A := (A.deeper e).deeper e2) hK (by show A.depth + 1 + 1 + 20 < _; walk_at "o") hh (by show A.units + 3 + 3 + 120 < _; walk_at "o") hfr3 (FrL.cons Fo2.kind hf2 (.head _) (F3.le fun p hp => .tail _ hp)) (by walk_at "m") (by walk_at "m") hks hgs (fun hall a b c => ?_) (fun i T sp hi hz hall x d msg a b c => ?_)))⟩
  ·refine ⟨_, Le.refl, (wd, zaa.dict (zaJ nd c0 c1 c2 c3 c4 c5 c6 c7 (.ref a) (.ref b) (.ref c))) :: (a, zaa.list []) :: (b, zaa.list []) :: (c, zaa.list []) :: r, ?_, h1 hall a b c⟩
   exact lz5 (lz0 (lz0 (lz0 (lz0 (Le.skip Le.refl)))))
  ·refine ⟨(iEA (e :: fr) hfr3 ?_), _, Le.refl, .head _, rfl, ?_, msg, .int sp, (wd, zaa.dict (zaJ nd c0 c1 c2 c3 c4 c5 c6 c7 (.ref a) (.ref b) (.ref c))) :: (a, zaa.list []) :: (b, zaa.list []) :: (c, zaa.list []) :: r, rfl, ?_, h2 i T sp hi hz hall a b c⟩
   ·exact (FrL.cons Fo2.kind hf2 (.head _) (F3.le fun p hp => .tail _ hp) : FrL ((L2, _) :: _) _).le fun p hp => .tail _ (.tail _ (.tail _ (.tail _ (.tail _ (.tail _ hp)))))
   ·exact F3.le fun p hp => .tail _ (.tail _ (.tail _ (.tail _ (.tail _ (.tail _ (.tail _ hp))))))
   ·exact lz0 (lz0 (lz5 (lz0 (lz0 (lz0 (lz0 (Le.skip Le.refl)))))))
theorem zex {B : zan} {A : Around} {r : Led} {Ψ : XQ} {Φ : EQ} (hK : KF B.K) (hr : A.depth + 30 < recursionLimit) (hh : A.handled = none) (hu : A.units + 130 < cLine) {fr : List Env} (hfr : A.frames = some fr) (F : FrL r fr)
  {f c' cw w wd nd c0 c1 c2 c3 c4 c5 c6 c7 lk lp lz : Addr} {qual : Str} {params : Arguments} {scope : Scope} {pm ctv : Value} {oc : Obj} {p1 p2 p3 : Pos}
  (hf : (f, zaa.raw (zlG qual params (.Call (.Name "check_late_keys" p1) [.Name "world" p2] [] p3) scope [("world", cw)] pm c' ctv)) ∈ r) (hc : (c', zaa.raw oc) ∈ r) (ho : znX oc qual)
  (ok : zjd scope [] ["check_late_keys"] ["world"] = true)
  (hbind : bindArgs (kla_fn "<lambda>" qual params (.Call (.Name "check_late_keys" p1) [.Name "world" p2] [] p3) scope [("world", cw)] pm (.ref c') ctv) ⟨[], []⟩ = pure []) (hcw : (cw, zaa.cell (some (.ref w))) ∈ r)
  {nes : List (Str × AV)} {ks : List AV} {gs : List (Ty × Int)} {m : Int} (hnd : (nd, zaa.dict nes) ∈ r) (hw : (w, zaa.inst 664 wd) ∈ r)
  (hks : ∀ k ∈ ks, k = .tup [zfs, .int 0]) (hgs : zg6 gs m)
  (h : ∀ a b c, Φ (zfk m) ((wd, zaa.dict (zaJ nd c0 c1 c2 c3 c4 c5 c6 c7 (.ref a) (.ref b) (.ref c))) :: (a, zaa.list []) :: (b, zaa.list []) :: (c, zaa.list []) :: r)) :
  Fn B A (.ref 734) [.ref f] ((wd, zaa.dict (zaJ nd c0 c1 c2 c3 c4 c5 c6 c7 (.ref lk) (.ref lp) (.ref lz))) :: (lk, zaa.list ks) :: (lp, zaa.list []) :: (lz, zaa.list (gs.map gAV)) :: r) Φ Ψ := by
 refine ziM hK hr hh hu hfr F hf hc ho ok hbind hcw hnd hw hks hgs.wf (fun hall a b c => ?_) (fun i T sp hi hz hall a b c => ?_)
 ·have hm : m ≤ 2 ^ 20 := by
   by_cases hm : m ≤ 2 ^ 20
   ·exact hm
   ·refine xEA (hgs.no hm) fun g hg e => ?_
    have := hall g hg
    rw [e] at this; cases this
  have := h a b c
  unfold zfk at this
  rw [if_pos hm] at this
  exact this
 ·have hm : ¬ m ≤ 2 ^ 20 := fun hm => by
   have := hgs.yes hm _ (List.mem_of_getElem? hi)
   dsimp only at this
   rw [hz] at this; cases this
  have hsp := hgs.at_ i T sp hi hz hall
  subst hsp
  have := h a b c
  unfold zfk at this
  rw [if_neg hm] at this
  exact this
noncomputable def zlE : List AV := [.int 0, .int 1, .int 2, .int 1023, .int 1024, .int 1025, .int 1048576]
theorem zkr {v : AV} (h : v ∈ zlE) : ∃ n : Int, v = .int n ∧ 0 ≤ n ∧ n ≤ 2 ^ 20 := by
 simp only [zlE, List.mem_cons, List.not_mem_nil, or_false] at h
 rcases h with rfl | rfl | rfl | rfl | rfl | rfl | rfl <;> exact (ze8 _ rfl (by decide) (by decide))
set_option maxHeartbeats 4000000 in
theorem zng {B : zan} {A : Around} {l : Led} {Ψ : XQ} {Φ : EQ} (hK : KF B.K) (hB : B.tabs = zjQ) (hr : A.depth + 200 < recursionLimit) (hh : A.handled = none) (hu : A.units + 500 < cLine) {fr : List Env} (hfr : A.frames = some fr) (F : FrL l fr) {src : Addr} {a b : Int} (h0 : 0 ≤ a ∧ 0 ≤ b ∧ b < 2147483647)
  (h : ∀ a' b' p1 p4, Φ (.bool true) ((src, zaa.list [.int a', .int b']) :: (438, .raw (tabObj p1)) :: (756, .raw (tabObj p4)) :: l)) : Fn B A (.ref 759) [.ref src] ((src, zaa.list [.int a, .int b]) :: (438, .raw (tabObj #[])) :: (756, .raw (tabObj #[])) :: l) Φ Ψ := by
 refine zee hK (by walk_at "d") fun L cw cs e hf hc Fo => ?_
 show Ex _ _ _ _ (_ :: _) _ _
 have hh2 : (A.deeper e).handled = none := hh
 have hfr2 : (A.deeper e).frames = some (e :: fr) := by show A.frames.map (e :: ·) = _; rwa [hfr]; rfl
 refine zai ?_
 refine zaL ?_ (by walk_at "r") (by walk_at "r")
 refine za8 Fo (own := [".0", "turn"]) (gs' := ["_law_one"]) (cs := ["source"]) (cl' := [("source", cs)]) (by decide +kernel) rfl (fun p hp => .tail _ hp) ?_ (by intro _; walk_at "r")
 walk_at "s"
 refine zah Fo (by walk_at "m") (zaO (n := "range") (kg hK 130) zbz (by decide)) ?_
 walk_at "s"
 refine ⟨zaA, zcL fun r0 t0 u0 v0 => ?_⟩
 refine ⟨_, _, fun i ys l' => ∃ (a b : Int), ys.length = i ∧ (∀ y ∈ ys, y ∈ zlE) ∧ 0 ≤ a ∧ 0 ≤ b ∧ b < 2147483647 ∧
    l' = (L, zaa.ns [("one", none), ("two", none), ("whole", none), ("text", none), ("written", none), ("told", none), ("due", none)]) :: (cw, zaa.cell none) :: (cs, zaa.cell (some (.ref src))) :: (src, zaa.list [.int a, .int b]) :: (438, .raw (tabObj #[])) :: (756, .raw (tabObj #[])) :: l, _, _,
    zdn (l3 := (L, zaa.ns [("one", none), ("two", none), ("whole", none), ("text", none), ("written", none), ("told", none), ("due", none)]) :: (cw, zaa.cell none) :: (cs, zaa.cell (some (.ref src))) :: (src, zaa.list [.int a, .int b]) :: (438, .raw (tabObj #[])) :: (756, .raw (tabObj #[])) :: l) (Le.skip Le.refl) (zdm (n := 2) hh2 List.mem_cons_self (by walk_at "o")), trivial, by simp, ⟨a, b, rfl, (fun _ h => nomatch h), h0.1, h0.2.1, h0.2.2, rfl⟩, fun _ _ _ _ _ => trivial, ?_, ?_⟩
 ·intro C env' i y ys m ks l' hy zq32 Fo' hm
  revert l'
  refine zgB fun a5 b5 hjl hin e1 e2 e3 => ?_
  refine xEE (zdk hm) fun ma mb yq178 => ?_
  subst yq178
  walk_at "s"
  refine zal Fo' (by walk_at "m") (zad (kg hK 124)) ?_
  walk_at "s"
  refine zdZ (by decide) (by decide +kernel) ?_
  rwa [show (2 : Int) ^ (20 : Int).toNat = 1048576 from by decide]
  walk_at "s"
  intro t7
  walk_at "s"
  refine ⟨zac (kg hK 123), zab (zgI (xs := zlE) hK (by walk_at "d") (.tail (.tail (.app (.tail (.tail (.tail .head)))))) (fun _ _ => List.mem_cons_self) List.mem_cons_self e1 e2 e3 (by decide) (by decide) fun v hv a6 b6 j1 j2 j3 => ?_)⟩
  exact ⟨_, _, rfl, Le.skip Le.refl, a6, b6, by rwa [List.length_append, hjl]; rfl, fun y hy => (List.mem_append.mp hy).elim (hin y) fun hy => by rwa [List.mem_singleton.mp hy]; exact hv, j1, j2, j3, rfl⟩
 intro ys l' zq33 D
 revert l'
 refine zgB fun a5 b5 hjl hin e1 e2 e3 => ?_
 refine xEE (znd (show ys.length = 2 from hjl)) fun x1 x2 yq180 => ?_
 subst yq180
 refine xEA (zkr (hin _ (.head _))) fun one yq181 o1 => ?_
 subst yq181
 refine xEA (zkr (hin _ mz1)) fun two yq182 o2 => ?_
 subst yq182
 refine zmc hh2 (.head _) ?_
 walk_at "s"
 refine zai ?_
 refine zaL ?_ (by walk_at "r") (zfS (Fo.cel ("world", cw) (by walk_at "m")).2)
 walk_at "s"
 refine zal Fo (by walk_at "m") (zad (kg hK 198)) ?_
 walk_at "s"
 refine ⟨zac (kg hK 197), zab (zhU hK (by walk_at "d") hh2 fun w wd nd c0 c1 c2 c3 c4 c5 c6 c7 lk lp lz rs hrs => ?_)⟩
 walk_at "s"
 refine zai ?_
 walk_at "s"
 refine zai ?_
 walk_at "s"
 refine zai ?_
 refine zaL ?_ (by walk_at "r") (by walk_at "r")
 walk_at "s"
 refine zal Fo (by walk_at "m") (zad (kg hK 124)) ?_
 walk_at "s"
 intro t7
 walk_at "s"
 refine ⟨zac (kg hK 123), zab (zgI (xs := zka one two) hK (by walk_at "d") (.tail (.tail (.tail (.tail (.tail (.tail (.tail (.app (.tail (.tail (.tail (.tail .head)))))))))))) (fun _ _ => List.mem_cons_self) List.mem_cons_self e1 e2 e3 (by show 0 < 7; decide) (by show 7 < 2 ^ 30; decide) fun v hv a6 b6 j1 j2 j3 => ?_)⟩
 refine zfM (zlz o1 o2 hv) fun W T K gs yq183 hRd hK7 hLate => ?_
 subst yq183
 have hT := hRd.told
 walk_at "s"
 refine zjh (Le.skip Le.refl) ?_
 refine zai ?_
 walk_at "s"
 refine zal Fo (by walk_at "m") (zad (kg hK 255)) ?_
 walk_at "s"
 refine zal Fo (by walk_at "m") (zad (kg hK 231)) ?_
 walk_at "s"
 refine zal Fo (by walk_at "m") (zad (kg hK 306)) ?_
 walk_at "s"
 refine ⟨zac (kg hK 307), zab (zhd hK (by walk_at "d") hh2 fun s d rd us hus => ?_)⟩
 walk_at "s"
 refine ⟨zac (kg hK 228), zab (zh3 hK (by walk_at "d") fun s2 d2 rd2 => ?_)⟩
 walk_at "s"
 refine ⟨zac (kg hK 256), zab (zbH (l' := (438, zaa.raw (tabObj #[])) :: (lz, zaa.list []) :: (lk, zaa.list []) :: _) (Le.pick (.tail (.tail (.tail (.app (.tail (.tail (.tail (.app (.tail (.tail (.tail (.tail (.tail (.tail (.app pz5))))))))))))))) (Le.pick (.tail (.tail (.tail (.app (.tail (.tail (.tail (.app pz5)))))))) (Le.pick (.tail (.tail (.tail (.app (.tail (.tail (.tail (.app pz3)))))))) Le.refl)))
  (zjL (n := 3) hK hB (by walk_at "d") hh2 (by walk_at "d") (Nat.le_refl _) hRd (by walk_at "m") (by walk_at "m") ?hi ?hs fun ps => ?_))⟩
 case hi => exact zij (us := us) (by rwa [hus]; exact List.mem_append_left _ (List.mem_append_left _ (.head _))) fun p hp => hp
 case hs => exact zij (us := us) (by rwa [hus]; exact List.mem_append_left _ (List.mem_append_right _ mz3)) fun p hp => hp
 walk_at "s"
 refine zcy hT.1 hT.1 (by show A.units + 3 + _ + _ < _; walk_at "o") ?_
 rwa [zdv hT.1]
 walk_at "s"
 refine zjh (lz0 (lz0 (lz0 (Le.skip (Le.skip (Le.skip (Le.drop (Le.skip (Le.skip (Le.skip (Le.drop (lz0 (lz0 (lz0 (lz0 (Le.drop (Le.skip Le.refl))))))))))))))))) ?_
 refine zai ?_
 refine zhS ?_ (by walk_at "r")
 refine zkQ (P := fun a => a = zfk (max 1 one * max 1 two)) ?_ ?_
 ·walk_at "s"
  refine zah Fo (by walk_at "m") (za6 (n := "max") (kg hK 118) zbq (by decide)) ?_
  walk_at "s"
  refine ⟨zap, zd6 hh2 ?_⟩
  walk_at "s"
  refine zah Fo (by walk_at "m") (za6 (n := "max") (kg hK 118) zbq (by decide)) ?_
  walk_at "s"
  refine ⟨zap, zd6 hh2 ?_⟩
  walk_at "s"
  refine zcP (zcQ (by walk_at "o")) ?_
  walk_at "s"
  refine zdZ (by decide) (by decide +kernel) ?_
  rwa [show (2 : Int) ^ (20 : Int).toNat = 2 ^ 20 from by decide]
  walk_at "s"
  by_cases hm : max 1 one * max 1 two ≤ 2 ^ 20
  ·rwa [decide_eq_true hm]
   walk_at "s"
   exact ⟨by unfold zfk; rwa [if_pos hm], rfl⟩
  ·rwa [decide_eq_false hm]
   walk_at "s"
   exact ⟨by unfold zfk; rwa [if_neg hm], rfl⟩
 rintro _ rfl
 walk_at "s"
 refine zai ?_
 walk_at "s"
 refine zal Fo (by walk_at "m") (zad (kg hK 208)) ?_
 refine zby ?_ (by walk_at "r")
 refine zcF Fo (c := 758) (P := 756) (ps0 := #[]) (cl' := [("world", cw)]) rfl (hc.trans (kg hK 308)) (by rwa [hB]; exact .tail _ mz2) (.tail (.tail (.tail (.tail (.tail (.tail (.tail (.tail (.tail (.tail (.tail .head))))))))))) trivial rfl rfl (fun p hp => (List.mem_singleton.mp hp) ▸ .head _) (by simp) fun fn c' oc ctv pm qual ho => ?_
 walk_at "s"
 refine ⟨zac (kg hK 209), zab (zbH (l' := (wd, zaa.dict (zaJ nd c0 c1 c2 c3 c4 c5 c6 c7 (.ref lk) (.ref lp) (.ref lz))) :: (lk, zaa.list K) :: (lp, zaa.list []) :: (lz, zaa.list (gs.map gAV)) :: _) (lz6 (lz4 (lz6 (lz3 Le.refl))))
  (zex (A := A.deeper e) hK (by walk_at "d") hh2 (by walk_at "d") hfr2 (FrL.cons Fo.kind hf (by walk_at "m") (F.le fun p hp => by walk_at "m")) (.head _) mz1 ho (by decide +kernel) rfl (by walk_at "m") (by walk_at "m") (by walk_at "m") hK7 hLate fun a b c => ?_))⟩
 have hdp := zkR (max 1 one * max 1 two)
 walk_at "s"
 refine zcy hdp.1 hdp.1 (by show A.units + 3 + _ + _ < _; walk_at "o") ?_
 rwa [zdv hdp.1]
 walk_at "s"
 refine zai ?_
 walk_at "s"
 refine zal Fo (by walk_at "m") (zad (kg hK 208)) ?_
 refine zby ?_ (by walk_at "r")
 refine zcF Fo (c := 758) (P := 756) (cl' := [("world", cw)]) rfl (hc.trans (kg hK 308)) (by rwa [hB]; exact .tail _ mz2) (.tail (.tail (.tail (.tail (.tail (.tail (.tail (.tail (.tail (.tail (.tail (.tail (.tail .head))))))))))))) trivial rfl rfl (fun p hp => (List.mem_singleton.mp hp) ▸ .head _) (by simp) fun fn2 cc2 oc2 ctv2 pm2 qual2 ho2 => ?_
 walk_at "s"
 refine ⟨zac (kg hK 209), zab (zbH (l' := (wd, zaa.dict (zaJ nd c0 c1 c2 c3 c4 c5 c6 c7 (.ref a) (.ref b) (.ref c))) :: (a, zaa.list []) :: (b, zaa.list []) :: (c, zaa.list (([] : List (Ty × Int)).map gAV)) :: _) (lz2 (lz2 (lz2 (lz2 Le.refl))))
  (zex (A := A.deeper e) hK (by walk_at "d") hh2 (by walk_at "d") hfr2 (FrL.cons Fo.kind hf (by walk_at "m") (F.le fun p hp => by walk_at "m")) (.head _) mz1 ho2 (by decide +kernel) rfl (by walk_at "m") (by walk_at "m") (by walk_at "m") (fun _ h => nomatch h) zqq fun a2 b2 c22 => ?_))⟩
 rwa [show zfk 0 = .none from if_pos (by decide)]
 walk_at "s"
 refine zb7 ?_
 walk_at "g"
 exact ⟨_, Le.pick (pzt pz6) (Le.pick (pzt .head) (Le.pick (pzt pz5) (by walk_at "e"))), h a6 b6 _ _⟩
theorem zov : zqN := by
 intro B sc ns hK hB hs hn
 delta zdD
 refine zqk hK (by decide) fun L e hf hc Fo => ?_
 show Ex _ _ _ _ (_ :: _) _ _
 have hh2 : (callerA.deeper e).handled = none := rfl
 have hfr2 : (callerA.deeper e).frames = some [e] := rfl
 have hB4 : B.tabs = zjQ := hB
 have hdep : callerA.depth + 400 < recursionLimit := by decide
 have hun : callerA.units + 1100 < cLine := by decide
 refine zai ?_
 walk_at "s"
 refine zcq ?_ (by intro _; walk_at "r")
 walk_at "s"
 refine zal Fo (by walk_at "m") (zad (kg hK 309)) ?_
 walk_at "s"
 refine ⟨zac (kg hK 310), zab (zl5 (A := callerA.deeper e) hK hB4 (by show callerA.depth + 1 + 40 < _; walk_at "o") hh2 (by show callerA.units + 3 + 200 < _; walk_at "o") hfr2 (FrL.cons Fo.kind hf (by walk_at "m") FrL.nil) (.tail (.tail (.tail .head))) fun ps3 => ?_)⟩
 walk_at "s"
 refine zcq ?_ (by intro _; walk_at "r")
 walk_at "s"
 refine zal Fo (by walk_at "m") (zad (kg hK 311)) ?_
 walk_at "s"
 refine ⟨zac (kg hK 312), zab (zjj (A := callerA.deeper e) hK (by show callerA.depth + 1 + 40 < _; walk_at "o") hh2 (by show callerA.units + 3 + 200 < _; walk_at "o") hfr2 (FrL.cons Fo.kind hf (by walk_at "m") FrL.nil) ?_)⟩
 walk_at "s"
 refine zai ?_
 walk_at "s"
 refine zal Fo (by walk_at "m") (zad (kg hK 313)) ?_
 walk_at "s"
 refine ⟨zac (kg hK 314), zab (zm9 (A := callerA.deeper e) hK (by show callerA.depth + 1 + 1 < _; walk_at "o") hh2 hs hn fun src a b b1 b2 b3 => ?_)⟩
 walk_at "s"
 refine zai ?_
 refine zp8 ?_
 refine zmA ?_ (by walk_at "r")
 walk_at "s"
 refine zal Fo (by walk_at "m") (zad (kg hK 315)) ?_
 walk_at "s"
 refine ⟨zac (kg hK 316), zab (zbH (l' := (src, zaa.list [.int a, .int b]) :: (741, .raw (tabObj #[])) :: _) (lz0 (lz2 Le.refl)) (zls (A := callerA.deeper e) hK hB4 (by show callerA.depth + 1 + 300 < _; walk_at "o") hh2 (by show callerA.units + 3 + 1000 < _; walk_at "o") hfr2 (FrL.cons Fo.kind hf (by walk_at "m") FrL.nil) ⟨b1, b2, b3⟩ fun a2 b2' ps2 d1 d2 d3 => ?_))⟩
 walk_at "s"
 refine zal Fo (by walk_at "m") (zad (kg hK 317)) ?_
 walk_at "s"
 refine ⟨zac (kg hK 318), zab (zbH (l' := (src, zaa.list [.int a2, .int b2']) :: (438, .raw (tabObj #[])) :: (756, .raw (tabObj #[])) :: _) (lz0 (lz2 (lz3 Le.refl))) (zng (A := callerA.deeper e) hK hB4 (by show callerA.depth + 1 + 200 < _; walk_at "o") hh2 (by show callerA.units + 3 + 500 < _; walk_at "o") hfr2 (FrL.cons Fo.kind hf (by walk_at "m") FrL.nil) ⟨d1, d2, d3⟩ fun a3 b3' p1 p4 => ?_))⟩
 walk_at "g"
 exact ⟨_, Le.refl, rfl, p1, ps2, ps3, p4, by walk_at "e"⟩
end
end Mine.Internal
namespace Mine
open Mine.Internal
theorem lay.tw9757571960529753542 : True := trivial
theorem lay.tw6830873873058934226 : True := trivial
theorem lay.tw4625872679165672435 : True := trivial
theorem lay.tw1886778755313890334 : True := trivial
theorem lay.tw10525348190559183026 : True := trivial
theorem lay.tw3315106440737641017 : True := trivial
theorem lay.tw3840049288868931510 : True := trivial
theorem lay.tw7127954797194513878 : True := trivial
theorem lay.tw4567132103924887610 : True := trivial
theorem lay.tw585641116828123957 : True := trivial
theorem lay.tw1875773907329158823 : True := trivial
theorem lay.tw16769259796390771875 : True := trivial
theorem lay.tw14245336561559256535 : True := trivial
theorem lay.tw3833270049659973872 : True := trivial
theorem lay.tw15001227548890690974 : True := trivial
theorem lay.tw9305417393013200689 : True := trivial
theorem lay.tw16292535821304200396 : True := trivial
theorem lay.tw4225549621299063861 : True := trivial
theorem lay.tw10344190802220759825 : True := trivial
theorem lay.tw10103367296713458014 : True := trivial
theorem lay.tw16159869819356581840 : True := trivial
theorem lay.tw7920796653243446301 : True := trivial
theorem lay.tw13819485492401849515 : True := trivial
theorem lay.tw16234784123309485035 : True := trivial
theorem lay.tw16721618386574998986 : True := trivial
theorem lay.tw12604856758265098397 : True := trivial
theorem lay.tw13422275169160239347 : True := trivial
theorem lay.tw16713014180841768000 : True := trivial
theorem lay.tw1247160005138887602 : True := trivial
theorem lay.tw4733793845858480968 : True := trivial
theorem lay.tw12890461767275268756 : True := trivial
theorem lay.tw3205702056113462140 : True := trivial
theorem lay.tw3263666943112899577 : True := trivial
theorem lay.tw16657787599204383593 : True := trivial
theorem lay.tw3330498458018008002 : True := trivial
theorem lay.tw3392700148074239388 : True := trivial
theorem lay.tw16526268317989979358 : True := trivial
theorem lay.tw4607522000229567882 : True := trivial
theorem lay.tw12107078902283645224 : True := trivial
theorem lay.tw4390615896271203532 : True := trivial
theorem lay.tw7912369999294342848 : True := trivial
theorem lay.tw901486910789923271 : True := trivial
theorem lay.tw10635108799221972552 : True := trivial
theorem lay.tw6691048499174155751 : True := trivial
theorem lay.tw14908617707711286053 : True := trivial
theorem lay.tw17558396797205504916 : True := trivial
theorem lay.tw5830606535567987491 : True := trivial
theorem lay.tw8487547216877809896 : True := trivial
theorem lay.tw9777360384367332157 : True := trivial
theorem lay.tw555714669168587509 : True := trivial
theorem lay.tw10067894288895669263 : True := trivial
theorem lay.tw5981498541886632356 : True := trivial
theorem lay.tw1576413942812049077 : True := trivial
theorem lay.tw9310064086061939412 : True := trivial
theorem lay.tw8463692688164766422 : True := trivial
theorem lay.tw7605082743664145448 : True := trivial
theorem lay.tw15924204893592802365 : True := trivial
theorem lay.tw1217582208905248051 : True := trivial
theorem lay.tw16943860621142872456 : True := trivial
theorem lay.tw1716992867650952202 : True := trivial
theorem lay.tw5425801936479353947 : True := trivial
theorem lay.tw665077634721279742 : True := trivial
theorem lay.tw10195738003992819302 : True := trivial
theorem lay.tw17065589728310602555 : True := trivial
theorem lay.tw664637027921227398 : True := trivial
theorem lay.tw4348409195382474082 : True := trivial
theorem lay.tw11799031331132231251 : True := trivial
theorem lay.tw16312612417391039394 : True := trivial
theorem lay.tw2359287013128156637 : True := trivial
theorem lay.tw17315311687385057695 : True := trivial
theorem lay.tw15793954181243992933 : True := trivial
theorem lay.tw15273032700007448630 : True := trivial
theorem lay.tw1345994586436501392 : True := trivial
theorem lay.tw750206281634891351 : True := trivial
theorem lay.tw5974062270873700090 : True := trivial
theorem lay.tw8039111944701604155 : True := trivial
theorem lay.tw14520621223531763293 : True := trivial
theorem lay.tw14830011233810497049 : True := trivial
theorem lay.tw1416169442071752647 : True := trivial
theorem lay.tw12036442071108142693 : True := trivial
theorem lay.tw2543271503114945259 : True := trivial
theorem lay.tw12565848717124896414 : True := trivial
theorem lay.tw5865325744070956736 : True := trivial
theorem lay.tw3569338907967294297 : True := trivial
theorem lay.tw5833520612802334824 : True := trivial
theorem lay.tw16741626141741346621 : True := trivial
theorem lay.tw14879157555817170700 : True := trivial
theorem lay.tw15428739768002575587 : True := trivial
theorem lay.tw16375061936522434030 : True := trivial
theorem lay.tw420579510905503549 : True := trivial
theorem lay.tw5089832104789826719 : True := trivial
theorem lay.tw9194766991728439710 : True := trivial
theorem lay.tw2748060873977062595 : True := trivial
theorem lay.tw13630564232273471741 : True := trivial
theorem lay.tw16310500328582762609 : True := trivial
theorem lay.tw1558320105964270165 : True := trivial
theorem lay.tw204112668925983462 : True := trivial
theorem lay.tw13778698238797744840 : True := trivial
theorem lay.tw607127651883508890 : True := trivial
theorem lay.tw8593185107160343020 : True := trivial
theorem lay.tw1929857611062452206 : True := trivial
theorem lay.tw15191752035346235929 : True := trivial
theorem lay.tw1247990536949030211 : True := trivial
theorem lay.tw5808731994390991138 : True := trivial
theorem lay.tw14677586343643086907 : True := trivial
theorem lay.tw3422052847705894472 : True := trivial
theorem lay.tw7680500431675684985 : True := trivial
theorem lay.tw8956365651964087947 : True := trivial
theorem lay.tw13220847416773010341 : True := trivial
theorem lay.tw16190319402219356163 : True := trivial
theorem lay.tw10086075082570090891 : True := trivial
theorem lay.tw169224220006603673 : True := trivial
theorem lay.tw8833752625322408957 : True := trivial
theorem lay.tw558806395021802449 : True := trivial
theorem lay.tw3077334934001841774 : True := trivial
theorem lay.tw5750267283534458450 : True := trivial
theorem lay.tw235749524841088869 : True := trivial
theorem lay.tw3806330245462146072 : True := trivial
theorem lay.tw16675948662333188484 : True := trivial
theorem lay.tw13796029341723219109 : True := trivial
theorem lay.tw10775526011711427988 : True := trivial
theorem lay.tw13974142532901995498 : True := trivial
theorem lay.tw9451478223757676545 : True := trivial
theorem lay.tw12169065191814185014 : True := trivial
theorem lay.tw943108112499541744 : True := trivial
theorem lay.tw2414120669142589273 : True := trivial
theorem lay.tw13440245567855237484 : True := trivial
theorem lay.tw14155212952247727797 : True := trivial
theorem lay.tw7813697554737756524 : True := trivial
theorem lay.tw5934588957499109684 : True := trivial
theorem lay.tw5598655361082997418 : True := trivial
theorem lay.tw5962028493098397730 : True := trivial
theorem lay.tw10748561777533726067 : True := trivial
theorem lay.tw5750980338153070404 : True := trivial
theorem lay.tw327587608747784114 : True := trivial
theorem lay.tw8536016523153638374 : True := trivial
theorem lay.tw16648125087967350364 : True := trivial
theorem lay.tw8371072159080881852 : True := trivial
theorem lay.tw9327422887215211354 : True := trivial
theorem lay.tw12392663431914237991 : True := trivial
theorem lay.tw1430355617877605597 : True := trivial
theorem lay.tw5191291421097368174 : True := trivial
theorem lay.tw7347993992079808918 : True := trivial
theorem lay.tw8314731622440593994 : True := trivial
theorem lay.tw15929161765882049978 : True := trivial
theorem lay.tw14574552251548038631 : True := trivial
theorem lay.tw2972372610165262260 : True := trivial
theorem lay.tw5743321442303629977 : True := trivial
theorem lay.tw8249464717597085613 : True := trivial
theorem lay.tw10900319313071762163 : True := trivial
theorem lay.tw3673415881276046089 : True := trivial
theorem lay.tw376791856521383272 : True := trivial
theorem lay.tw16742414589773825151 : True := trivial
theorem lay.tw2518109523399656587 : True := trivial
theorem lay.tw1665002406393825254 : True := trivial
theorem lay.tw6897297818270253562 : True := trivial
theorem lay.tw14871350823382004329 : True := trivial
theorem lay.tw10788206007247653750 : True := trivial
theorem lay.tw2390226909188250617 : True := trivial
theorem lay.tw3433911670898385216 : True := trivial
theorem lay.tw8011630879476116206 : True := trivial
theorem lay.tw17425732048001331336 : True := trivial
theorem lay.tw10661030337828394544 : True := trivial
theorem lay.tw11021327972396339107 : True := trivial
theorem lay.tw9027920221195054195 : True := trivial
theorem lay.tw1780637242790091175 : True := trivial
theorem lay.tw10547176860884220509 : True := trivial
theorem lay.tw15178622092565075635 : True := trivial
theorem lay.tw292632845723489810 : True := trivial
theorem lay.tw10226087746944709290 : True := trivial
theorem lay.tw6509187157916056236 : True := trivial
theorem lay.tw8653265689025132841 : True := trivial
theorem lay.tw17062986389111390604 : True := trivial
theorem lay.tw4212449197645890702 : True := trivial
theorem lay.tw8621283549002905465 : True := trivial
theorem lay.tw819461920547825240 : True := trivial
theorem lay.tw7522095831013449343 : True := trivial
theorem lay.tw13904338955311626618 : True := trivial
theorem lay.tw11047593767907413265 : True := trivial
theorem lay.tw17160516595180064531 : True := trivial
theorem lay.tw6432352662699525946 : True := trivial
theorem lay.tw11400793939289249699 : True := trivial
theorem lay.tw15786797496583632129 : True := trivial
theorem lay.tw8347303307471821961 : True := trivial
theorem lay.tw11137988421735380138 : True := trivial
theorem lay.tw157586148993374361 : True := trivial
theorem lay.tw13903270343731674639 : True := trivial
theorem lay.tw7531232463475507247 : True := trivial
theorem lay.tw6971263841841774178 : True := trivial
theorem lay.tw3126358238623400521 : True := trivial
theorem lay.tw618269337007743109 : True := trivial
theorem lay.tw3362250942264669700 : True := trivial
theorem lay.tw5515417359811730087 : True := trivial
theorem lay.tw9600078862459003394 : True := trivial
theorem lay.tw5810690330859805019 : True := trivial
theorem lay.tw11730160371409220185 : True := trivial
theorem lay.tw13737796295737323418 : True := trivial
theorem lay.tw17379507016929806597 : True := trivial
theorem lay.tw2026505665447313790 : True := trivial
theorem lay.tw10237632315901858712 : True := trivial
theorem lay.tw2363427251804022522 : True := trivial
theorem lay.tw2480523289395516895 : True := trivial
theorem lay.tw743982219092191328 : True := trivial
theorem lay.tw16892986890188213976 : True := trivial
theorem lay.tw4977871655118945942 : True := trivial
theorem lay.tw13136879328067647785 : True := trivial
theorem lay.tw18022596332769140639 : True := trivial
theorem lay.tw15021427600551343302 : True := trivial
theorem lay.tw4023749764942217420 : True := trivial
theorem lay.tw12292931944435405961 : True := trivial
theorem lay.tw55666790098111549 : True := trivial
theorem lay.tw13121011809437425463 : True := trivial
theorem lay.tw14373779568917374191 : True := trivial
theorem lay.tw15173256371812177064 : True := trivial
theorem lay.tw11695327886869657089 : True := trivial
theorem lay.tw13594058202823719186 : True := trivial
theorem lay.tw15348680678483245690 : True := trivial
theorem lay.tw16803023067919094161 : True := trivial
theorem lay.tw4418490759962732218 : True := trivial
theorem lay.tw1891706674805324525 : True := trivial
theorem lay.tw14569735147629596869 : True := trivial
theorem lay.tw18345013669643154551 : True := trivial
theorem lay.tw9619908044761399404 : True := trivial
theorem lay.tw7859898739543710592 : True := trivial
theorem lay.tw13414928950199285740 : True := trivial
theorem lay.tw11741856988360799038 : True := trivial
theorem lay.tw9072963557861554628 : True := trivial
theorem lay.tw10241747417054798471 : True := trivial
theorem lay.tw14800849538757716109 : True := trivial
theorem lay.tw6724856199805266479 : True := trivial
theorem lay.tw17369903941059950004 : True := trivial
theorem lay.tw12785691742140347898 : True := trivial
theorem lay.tw14150571119885147912 : True := trivial
theorem lay.tw3011563394737253394 : True := trivial
theorem lay.tw13675602808014897381 : True := trivial
theorem lay.tw2348052787372239207 : True := trivial
theorem lay.tw7943199258730011476 : True := trivial
theorem lay.tw4744347334299713818 : True := trivial
theorem lay.tw6580773283443037898 : True := trivial
theorem lay.tw18317756563632834577 : True := trivial
theorem lay.tw12457903889849762995 : True := trivial
theorem lay.tw2175125935720828335 : True := trivial
theorem lay.tw8380696110623675943 : True := trivial
theorem lay.tw10752564880552507425 : True := trivial
theorem lay.tw3539620365042903520 : True := trivial
theorem lay.tw13639497983503874344 : True := trivial
theorem lay.tw3477943289877131211 : True := trivial
theorem lay.tw5772781868984777677 : True := trivial
theorem lay.tw18399184590657717047 : True := trivial
theorem lay.tw8839415205398045290 : True := trivial
theorem lay.tw15201440808262371814 : True := trivial
theorem lay.tw7719370553542773279 : True := trivial
theorem lay.tw2177737371726054073 : True := trivial
theorem lay.tw13381076320712240066 : True := trivial
theorem lay.tw8269307791506100990 : True := trivial
theorem lay.tw11659178364192717928 : True := trivial
theorem lay.tw7267845355142835698 : True := trivial
theorem lay.tw12611873352809061036 : True := trivial
theorem lay.tw3444402607121432356 : True := trivial
theorem lay.tw2874373502408117522 : True := trivial
theorem lay.tw1314167840593791789 : True := trivial
theorem lay.tw14535001113682266412 : True := trivial
theorem lay.tw11046268416612177907 : True := trivial
theorem lay.tw15341182967344517884 : True := trivial
theorem lay.tw5299272893713527796 : True := trivial
theorem lay.tw9829097839204989966 : True := trivial
theorem lay.tw14206367594047798092 : True := trivial
theorem lay.tw1039060997598961568 : True := trivial
theorem lay.tw1920289312330047046 : True := trivial
theorem lay.tw4731537981910093399 : True := trivial
theorem lay.tw2398232160625451238 : True := trivial
theorem lay.tw6400275368284655565 : True := trivial
theorem lay.tw8457273880981036097 : True := trivial
theorem lay.tw11909285637192479136 : True := trivial
theorem lay.tw11762823939975721517 : True := trivial
theorem lay.tw2336284366914365672 : True := trivial
theorem lay.tw5709253620560998024 : True := trivial
theorem lay.tw14124253777224870955 : True := trivial
theorem lay.tw10960759806715769157 : True := trivial
theorem lay.tw773541288419315962 : True := trivial
theorem lay.tw5535730624086146030 : True := trivial
theorem lay.tw14884434464210766195 : True := trivial
theorem lay.tw14136605434610306832 : True := trivial
theorem lay.tw17335489087639743913 : True := trivial
theorem lay.tw15504194333861837789 : True := trivial
theorem lay.tw3054538348984533753 : True := trivial
theorem lay.tw8180474762202233462 : True := trivial
theorem lay.tw8198066716927333927 : True := trivial
theorem lay.tw221948054691826433 : True := trivial
theorem lay.tw16424451268858338943 : True := trivial
theorem lay.tw5671592001701568070 : True := trivial
theorem lay.tw3802194517491127435 : True := trivial
theorem lay.tw11557082007370925359 : True := trivial
theorem lay.tw4253449954158428008 : True := trivial
theorem lay.tw15051768834745303195 : True := trivial
theorem lay.tw16447372717634676808 : True := trivial
theorem lay.tw16151637722945743599 : True := trivial
theorem lay.tw5307834552702245551 : True := trivial
theorem lay.tw13544901129932603910 : True := trivial
theorem lay.tw5787140548920083946 : True := trivial
theorem lay.tw15576029317407354955 : True := trivial
theorem lay.tw15475278546805568059 : True := trivial
theorem lay.tw18075981449481118608 : True := trivial
theorem lay.tw8188625095144531795 : True := trivial
theorem lay.tw3068262760258267804 : True := trivial
theorem lay.tw11704953745484136541 : True := trivial
theorem lay.tw8140700404227571193 : True := trivial
theorem lay.tw12565348912193905585 : True := trivial
theorem lay.tw17966648683280556187 : True := trivial
theorem lay.tw8050343936332248018 : True := trivial
theorem lay.tw15145764709220152429 : True := trivial
theorem lay.tw11849031404286965971 : True := trivial
theorem lay.tw4635681436319773136 : True := trivial
theorem lay.tw10393700798500844004 : True := trivial
theorem lay.tw11388622141995385794 : True := trivial
theorem lay.tw602094189221325708 : True := trivial
theorem lay.tw8506283850946422819 : True := trivial
theorem lay.tw18212480522144155005 : True := trivial
theorem lay.tw16292079224753719861 : True := trivial
theorem lay.tw17577596144921054626 : True := trivial
theorem lay.tw8265525305505293934 : True := trivial
theorem lay.tw8941458933042817464 : True := trivial
theorem lay.tw15253124410009106301 : True := trivial
theorem lay.tw14712672134830521223 : True := trivial
theorem lay.tw4397452023049399103 : True := trivial
theorem lay.tw8532849323868416004 : True := trivial
theorem lay.tw5465321624258034463 : True := trivial
theorem lay.tw12161922211649208530 : True := trivial
theorem lay.tw6752448006953486722 : True := trivial
theorem lay.tw276224124096685259 : True := trivial
theorem lay.tw7919498504743771820 : True := trivial
theorem lay.tw3794707379785762853 : True := trivial
theorem lay.tw1255449715163934459 : True := trivial
theorem lay.tw897046508837820008 : True := trivial
theorem lay.tw15288015492587440004 : True := trivial
theorem lay.tw11241928962055353128 : True := trivial
theorem lay.tw4906798973327027403 : True := trivial
theorem lay.tw130141477347726049 : True := trivial
theorem lay.tw17618533353494196727 : True := trivial
theorem lay.tw14622721557421572462 : True := trivial
theorem lay.tw9846834441444062199 : True := trivial
theorem lay.tw4034212875547130190 : True := trivial
theorem lay.tw11792180821847578722 : True := trivial
theorem lay.tw6121928103448470216 : True := trivial
theorem lay.tw17391834512935503450 : True := trivial
theorem lay.tw204082880071851150 : True := trivial
theorem lay.tw7888386201442044926 : True := trivial
theorem lay.tw16678351354196111648 : True := trivial
theorem lay.tw8878858753915818413 : True := trivial
theorem lay.tw18334408461864724655 : True := trivial
theorem lay.tw14012647862744662225 : True := trivial
theorem lay.tw183131208254724144 : True := trivial
theorem lay.tw2441469641168542119 : True := trivial
theorem lay.tw8822151611629610841 : True := trivial
theorem lay.tw15023178883013349761 : True := trivial
theorem lay.tw12609080243881112678 : True := trivial
theorem lay.tw4478805586224820863 : True := trivial
theorem lay.tw5083651914794133146 : True := trivial
theorem lay.tw10152481344869546448 : True := trivial
theorem lay.tw3277958959079577738 : True := trivial
theorem lay.tw1514417403876584984 : True := trivial
theorem lay.tw7225919473353897632 : True := trivial
theorem lay.tw13475464434769132982 : True := trivial
theorem lay.tw12521172723726171006 : True := trivial
theorem lay.tw9233894992164506444 : True := trivial
theorem lay.tw7258124885395697070 : True := trivial
theorem lay.tw4748703146363119484 : True := trivial
theorem lay.tw7720977235684984154 : True := trivial
theorem lay.tw16869561669782761173 : True := trivial
theorem lay.tw12240793382441092934 : True := trivial
theorem lay.tw3187000106339587089 : True := trivial
theorem lay.tw12889484965183284458 : True := trivial
theorem lay.tw5894441837426653191 : True := trivial
theorem lay.tw8853789369609581019 : True := trivial
theorem lay.tw8454393836509608040 : True := trivial
theorem lay.tw16386920480555605649 : True := trivial
theorem lay.tw17989017045736133044 : True := trivial
theorem lay.tw5604138554438519581 : True := trivial
theorem lay.tw17692578256319639860 : True := trivial
theorem lay.tw2588900369602414400 : True := trivial
theorem lay.tw8996181903602064138 : True := trivial
theorem lay.tw15797477795629654994 : True := trivial
theorem lay.tw17430732751228962411 : True := trivial
theorem lay.tw9138062723131223349 : True := trivial
theorem lay.tw4200804951194163854 : True := trivial
theorem lay.tw3988430431250135346 : True := trivial
theorem lay.tw7583008379158496884 : True := trivial
theorem lay.tw11853335294425036171 : True := trivial
theorem lay.tw9737906056168293921 : True := trivial
theorem lay.tw17733579290339796540 : True := trivial
theorem lay.tw13581988992538922679 : True := trivial
theorem lay.tw10445505170474244683 : True := trivial
theorem lay.tw14901042401080162038 : True := trivial
theorem lay.tw15376334881238602349 : True := trivial
theorem lay.tw12840279665480660824 : True := trivial
theorem lay.tw16817652412881211680 : True := trivial
theorem lay.tw16816793855720444745 : True := trivial
theorem lay.tw3556596772544407801 : True := trivial
theorem lay.tw9279604766493725996 : True := trivial
theorem lay.tw133445938101660223 : True := trivial
theorem lay.tw9595827280754091064 : True := trivial
theorem lay.tw7776557140499488272 : True := trivial
theorem lay.tw2110798240614339228 : True := trivial
theorem lay.tw5148974235171331211 : True := trivial
theorem lay.tw5360851851916075554 : True := trivial
theorem lay.tw9327276608688378423 : True := trivial
theorem lay.tw10479931619155582931 : True := trivial
theorem lay.tw17251060905587826348 : True := trivial
theorem lay.tw8136108128063246770 : True := trivial
theorem lay.tw1422213566128385879 : True := trivial
theorem lay.tw12617609413633845837 : True := trivial
theorem lay.tw5192537751774633537 : True := trivial
theorem lay.tw9932304731937145725 : True := trivial
theorem lay.tw8250120268935393072 : True := trivial
theorem lay.tw2245604986799985338 : True := trivial
theorem lay.tw3485610488292372379 : True := trivial
theorem lay.tw1746005588602509803 : True := trivial
theorem lay.tw4215935673108242779 : True := trivial
theorem lay.tw10615225656356777206 : True := trivial
theorem lay.tw15209890713874882938 : True := trivial
theorem lay.tw10875934926854150715 : True := trivial
theorem lay.tw7694782618491446754 : True := trivial
theorem lay.tw7566110629550652879 : True := trivial
theorem lay.tw5014665576449715940 : True := trivial
theorem lay.tw1923427508744434843 : True := trivial
theorem lay.tw9285153662136491396 : True := trivial
theorem lay.tw4295356955660829240 : True := trivial
theorem lay.tw16961839350040143998 : True := trivial
theorem lay.tw8249485606908882593 : True := trivial
theorem lay.tw8942391551945277154 : True := trivial
theorem lay.tw5913216129240992656 : True := trivial
theorem lay.tw15544818888461900729 : True := trivial
theorem lay.tw8939200125913040276 : True := trivial
theorem lay.tw8550578449248144144 : True := trivial
theorem lay.tw2071198485482780245 : True := trivial
theorem lay.tw13715424674413269950 : True := trivial
theorem lay.tw17405151770409459815 : True := trivial
theorem lay.tw13318758818960867755 : True := trivial
theorem lay.tw4866450505485220792 : True := trivial
theorem lay.tw10959228685550866149 : True := trivial
theorem lay.tw11732220839161902984 : True := trivial
theorem lay.tw8390226787160967302 : True := trivial
theorem lay.tw5309794910594087060 : True := trivial
theorem lay.tw3415442872067295301 : True := trivial
theorem lay.tw16288183677518167546 : True := trivial
theorem lay.tw10429073755651174579 : True := trivial
theorem lay.tw5463703645530653295 : True := trivial
theorem lay.tw217339109735997741 : True := trivial
theorem lay.tw11332414039238287295 : True := trivial
theorem lay.tw11417708064213230332 : True := trivial
theorem lay.tw8185156711419989344 : True := trivial
theorem lay.tw8260022202811937215 : True := trivial
theorem lay.tw9477366770352440727 : True := trivial
theorem lay.tw10681439659538178012 : True := trivial
theorem lay.tw8173374905413494447 : True := trivial
theorem lay.tw14587826121211197852 : True := trivial
theorem lay.tw1822404266119706522 : True := trivial
theorem lay.tw4462943184588205384 : True := trivial
theorem lay.tw129474295798336144 : True := trivial
theorem lay.tw1825190984758451380 : True := trivial
theorem lay.tw12947164360954928877 : True := trivial
theorem lay.tw15783972624947187255 : True := trivial
theorem lay.tw14754994113471200860 : True := trivial
theorem lay.tw14198278341545991778 : True := trivial
theorem lay.tw5294529741283086206 : True := trivial
theorem lay.tw10879456399551855767 : True := trivial
theorem lay.tw9791651602883468355 : True := trivial
theorem lay.tw14359550399983697747 : True := trivial
theorem lay.tw6271057065158521504 : True := trivial
theorem lay.tw13105894666957425948 : True := trivial
theorem lay.tw11641653631555103460 : True := trivial
theorem lay.tw6911807216104819041 : True := trivial
theorem lay.tw3767402612741035214 : True := trivial
theorem lay.tw2621325827296491809 : True := trivial
theorem lay.tw8345122735423420876 : True := trivial
theorem lay.tw247464540006558612 : True := trivial
theorem lay.tw5139566073535786485 : True := trivial
theorem lay.tw11222772047800958010 : True := trivial
theorem lay.tw10606452895385396698 : True := trivial
theorem lay.tw11828558140148395123 : True := trivial
theorem lay.tw697831952591463470 : True := trivial
theorem lay.tw17545616347411157311 : True := trivial
theorem lay.tw12473577532532572585 : True := trivial
theorem lay.tw6626131283497388123 : True := trivial
theorem lay.tw11528123893690816511 : True := trivial
theorem lay.tw14775553307039881408 : True := trivial
theorem lay.tw1639524159356189144 : True := trivial
theorem lay.tw16485144260067667880 : True := trivial
theorem lay.tw15986752752312130917 : True := trivial
theorem lay.tw13040533990237822635 : True := trivial
theorem lay.tw11404560827719528254 : True := trivial
theorem lay.tw10571217793448195287 : True := trivial
theorem lay.tw7556949425883215766 : True := trivial
theorem lay.tw3831742318969699319 : True := trivial
theorem lay.tw9212514707182387966 : True := trivial
theorem lay.tw2526373844669110549 : True := trivial
theorem lay.tw475825526153664138 : True := trivial
theorem lay.tw4052969886821827539 : True := trivial
theorem lay.tw14357514791995469767 : True := trivial
theorem lay.tw11205588062152259497 : True := trivial
theorem lay.tw18161784569057850475 : True := trivial
theorem lay.tw4681933397018968159 : True := trivial
theorem lay.tw12127244842260708774 : True := trivial
theorem lay.tw2910998645590902604 : True := trivial
theorem lay.tw7348677744963783296 : True := trivial
theorem lay.tw7724325419120605218 : True := trivial
theorem lay.tw7670483730559176445 : True := trivial
theorem lay.tw11806807840427591008 : True := trivial
theorem lay.tw479657322905450240 : True := trivial
theorem lay.tw1251130526303472692 : True := trivial
theorem lay.tw9479761127472188855 : True := trivial
theorem lay.tw10626385062104548620 : True := trivial
theorem lay.tw17806675185926676411 : True := trivial
theorem lay.tw2169762034546791791 : True := trivial
theorem lay.tw11963102480510298888 : True := trivial
theorem lay.tw6683458450838183316 : True := trivial
theorem lay.tw11807911576058250021 : True := trivial
theorem lay.tw15023567000468280567 : True := trivial
theorem lay.tw6522487633606921057 : True := trivial
theorem lay.tw18175893537083474800 : True := trivial
theorem lay.tw9106380387629951645 : True := trivial
theorem lay.tw4308398234462155959 : True := trivial
theorem lay.tw13720398003597735905 : True := trivial
theorem lay.tw8094909530023716207 : True := trivial
theorem lay.tw11865257414916196891 : True := trivial
theorem lay.tw6030633584284063324 : True := trivial
theorem lay.tw17282145565024404397 : True := trivial
theorem lay.tw16388582175038837873 : True := trivial
theorem lay.tw15968850995891877984 : True := trivial
theorem lay.tw2402718304374065325 : True := trivial
theorem lay.tw5036745425697791585 : True := trivial
theorem lay.tw4424767775148006645 : True := trivial
theorem lay.tw6147003708154081863 : True := trivial
theorem lay.tw4721298783525595496 : True := trivial
theorem lay.tw5224431535654518030 : True := trivial
theorem lay.tw14000521522137103776 : True := trivial
theorem lay.tw5507105375271613261 : True := trivial
theorem lay.tw14922429621096034048 : True := trivial
theorem lay.tw13054392721160256878 : True := trivial
theorem lay.tw2443558068452502766 : True := trivial
theorem lay.tw8005413262436587249 : True := trivial
theorem lay.tw3854432817487249686 : True := trivial
theorem lay.tw16986875907055320792 : True := trivial
theorem lay.tw10628188514828682727 : True := trivial
theorem lay.tw16989018064735444262 : True := trivial
theorem lay.tw8408762537161780394 : True := trivial
theorem lay.tw12744261308256918144 : True := trivial
theorem lay.tw227114328744435011 : True := trivial
theorem lay.tw14444614936753419681 : True := trivial
theorem lay.tw9413383921359338885 : True := trivial
theorem lay.tw10577900905408629001 : True := trivial
theorem lay.tw16206447225479371040 : True := trivial
theorem lay.tw13289755418478050653 : True := trivial
theorem lay.tw16649360296855330783 : True := trivial
theorem lay.tw11541961828846214488 : True := trivial
theorem lay.tw16748328253991134536 : True := trivial
theorem lay.tw16027817464349089462 : True := trivial
theorem lay.tw3098338091455514483 : True := trivial
theorem lay.tw1052745895121056258 : True := trivial
theorem lay.tw5024498448456903510 : True := trivial
theorem lay.tw7536276846748341969 : True := trivial
theorem lay.tw17319933770246474385 : True := trivial
theorem lay.tw15796716375400616543 : True := trivial
theorem lay.tw3749953889847758498 : True := trivial
theorem lay.tw9046489004004402623 : True := trivial
theorem lay.tw5405394389414450919 : True := trivial
theorem lay.tw12817177220160958714 : True := trivial
theorem lay.tw7659554306024878828 : True := trivial
theorem lay.tw5367310903241615345 : True := trivial
theorem lay.tw17079603403300075890 : True := trivial
theorem lay.tw3555979052574879748 : True := trivial
theorem lay.tw15883543698120246319 : True := trivial
theorem lay.tw1413217336520364827 : True := trivial
theorem lay.tw8619447839960602064 : True := trivial
theorem lay.tw14458616121442568005 : True := trivial
theorem lay.tw14753362303008027623 : True := trivial
theorem lay.tw13769801907742773608 : True := trivial
theorem lay.tw13692088044111821462 : True := trivial
theorem lay.tw14206632574803503995 : True := trivial
theorem lay.tw8287138078937248888 : True := trivial
theorem lay.tw2203084611021586612 : True := trivial
theorem lay.tw9701456614369117737 : True := trivial
theorem lay.tw17605361846152200241 : True := trivial
theorem lay.tw545031676071008846 : True := trivial
theorem lay.tw10983521745152765356 : True := trivial
theorem lay.tw8866036977469993980 : True := trivial
theorem lay.tw6500002942730582532 : True := trivial
theorem lay.tw12683229998769066388 : True := trivial
theorem lay.tw11702142375158713066 : True := trivial
theorem lay.tw12300785760901544374 : True := trivial
theorem lay.tw9532830602933743043 : True := trivial
theorem lay.tw3271018118962972424 : True := trivial
theorem lay.tw7959311621451224421 : True := trivial
theorem lay.tw9169680709102047255 : True := trivial
theorem lay.tw11674519444512577938 : True := trivial
theorem lay.tw162548522366177229 : True := trivial
theorem lay.tw1675699108853531910 : True := trivial
theorem lay.tw10634350989747295046 : True := trivial
theorem lay.tw16185399744161057929 : True := trivial
theorem lay.tw18274990599614501288 : True := trivial
theorem lay.tw8558294835552014371 : True := trivial
theorem lay.tw15950217873534048341 : True := trivial
theorem lay.tw8843265786144164588 : True := trivial
theorem lay.tw14554661779644014321 : True := trivial
theorem lay.tw16218942189880029001 : True := trivial
theorem lay.tw1999122900274366071 : True := trivial
theorem lay.tw14264329668836714254 : True := trivial
theorem lay.tw17077888634154258405 : True := trivial
theorem lay.tw13201180445667504751 : True := trivial
theorem lay.tw15375634193669026924 : True := trivial
theorem lay.tw13581140595736093528 : True := trivial
theorem lay.tw13214564578357075327 : True := trivial
theorem lay.tw13685472640927503066 : True := trivial
theorem lay.tw12246864573472743804 : True := trivial
theorem lay.tw1041425428313311623 : True := trivial
theorem lay.tw14966920999293886062 : True := trivial
theorem lay.tw8236985322829351576 : True := trivial
theorem lay.tw2069952473065604631 : True := trivial
theorem lay.tw11770583446582782137 : True := trivial
theorem lay.tw12288793602430281688 : True := trivial
theorem lay.tw13551477779621104560 : True := trivial
theorem lay.tw9921208497660528265 : True := trivial
theorem lay.tw9379088103443837664 : True := trivial
theorem lay.tw8354794407558562947 : True := trivial
theorem lay.tw4668333728657991733 : True := trivial
theorem lay.tw6269011653421988232 : True := trivial
theorem lay.tw9733089253129250466 : True := trivial
theorem lay.tw9711055465572596614 : True := trivial
theorem lay.tw12543157339596874055 : True := trivial
theorem lay.tw3253166856977766057 : True := trivial
theorem lay.tw13358252075555682974 : True := trivial
theorem lay.tw6354791289799488485 : True := trivial
theorem lay.tw5274403931358571323 : True := trivial
theorem lay.tw16099832373373668621 : True := trivial
theorem lay.tw9774160525890576394 : True := trivial
theorem lay.tw15882191734709241017 : True := trivial
theorem lay.tw11923700162404317147 : True := trivial
theorem lay.tw7270285089340872070 : True := trivial
theorem lay.tw18399491075107340716 : True := trivial
theorem lay.tw13853059075403882221 : True := trivial
theorem lay.tw8447595696162521476 : True := trivial
theorem lay.tw5483935292694883392 : True := trivial
theorem lay.tw2480774816145141050 : True := trivial
theorem lay.tw15731286154981014900 : True := trivial
theorem lay.tw5043616954356366107 : True := trivial
theorem lay.tw11149827927833777087 : True := trivial
theorem lay.tw2724152331626259753 : True := trivial
theorem lay.tw2035616212288499557 : True := trivial
theorem lay.tw5598879857067539279 : True := trivial
theorem lay.tw9760216761095584133 : True := trivial
theorem lay.tw9668928211752173396 : True := trivial
theorem lay.tw1335906627580594853 : True := trivial
theorem lay.tw3193530995708556740 : True := trivial
theorem lay.tw2088963404954103429 : True := trivial
theorem lay.tw6774343522111338239 : True := trivial
theorem lay.tw11020812299599281948 : True := trivial
theorem lay.tw10660162839040914743 : True := trivial
theorem lay.tw15184634673685017567 : True := trivial
theorem lay.tw8843037419512195548 : True := trivial
theorem lay.tw16796216849503245567 : True := trivial
theorem lay.tw2585073046421469711 : True := trivial
theorem lay.tw5140226024773640017 : True := trivial
theorem lay.tw8037182055552772127 : True := trivial
theorem lay.tw16576641599590206816 : True := trivial
theorem lay.tw16923530980803573589 : True := trivial
theorem lay.tw3685227294673415389 : True := trivial
theorem lay.tw11498809223875185025 : True := trivial
theorem lay.tw17811531517167124858 : True := trivial
theorem lay.tw17495307639901598706 : True := trivial
theorem lay.tw15641022558123632503 : True := trivial
theorem lay.tw1857338831754610024 : True := trivial
theorem lay.tw13849014446336496868 : True := trivial
theorem lay.tw16158591664564874097 : True := trivial
theorem lay.tw11623450596563097889 : True := trivial
theorem lay.tw2470299863123165561 : True := trivial
theorem lay.tw4530541306531560284 : True := trivial
theorem lay.tw5085227249930366910 : True := trivial
theorem lay.tw4102869857894755143 : True := trivial
theorem lay.tw3859830870374680134 : True := trivial
theorem lay.tw6584698069434865652 : True := trivial
theorem lay.tw16368628884183846785 : True := trivial
theorem lay.tw11047203204446730505 : True := trivial
theorem lay.tw9875067261483388377 : True := trivial
theorem lay.tw4556411125249391133 : True := trivial
theorem lay.tw13605171822212121215 : True := trivial
theorem lay.tw1429987173202459230 : True := trivial
theorem lay.tw1140846015234696928 : True := trivial
theorem lay.tw4950363111719741430 : True := trivial
theorem lay.tw9582477788632486469 : True := trivial
theorem lay.tw93421821638232385 : True := trivial
theorem lay.tw3411942588907072746 : True := trivial
theorem lay.tw3364044369739048881 : True := trivial
theorem lay.tw15032010525817800495 : True := trivial
theorem lay.tw10969827708950895096 : True := trivial
theorem lay.tw301410923001789110 : True := trivial
theorem lay.tw7874699239038827471 : True := trivial
theorem lay.tw15599081174308229039 : True := trivial
theorem lay.tw10422274474164877424 : True := trivial
theorem lay.tw10527218266300331511 : True := trivial
theorem lay.tw4820921198585017278 : True := trivial
theorem lay.tw14942288888977646305 : True := trivial
theorem lay.tw16403265476518465334 : True := trivial
theorem lay.tw13244762254759041295 : True := trivial
theorem lay.tw2681759684403938467 : True := trivial
theorem lay.tw8522471110834954974 : True := trivial
theorem lay.tw8124434978307155727 : True := trivial
theorem lay.tw16803075798838521637 : True := trivial
theorem lay.tw14488428023482499686 : True := trivial
theorem lay.tw6270526247566665436 : True := trivial
theorem lay.tw14225957710101370541 : True := trivial
theorem lay.tw6260705009506393874 : True := trivial
theorem lay.tw4425970611429921490 : True := trivial
theorem lay.tw16993738089725334863 : True := trivial
theorem lay.tw17721107862250673318 : True := trivial
theorem lay.tw3039995169649021941 : True := trivial
theorem lay.tw11148194541137971936 : True := trivial
theorem lay.tw5725260282557241800 : True := trivial
theorem lay.tw3811466747596940483 : True := trivial
theorem lay.tw2315793293304720092 : True := trivial
theorem lay.tw9342698640264501637 : True := trivial
theorem lay.tw6800154795457225145 : True := trivial
set_option Elab.async true in
theorem lay : PySem.Challenge.rw_pq0229_01.Holds := by
 (w_on; o_law; k_head; (case hw => w_witness2))
 intro w s₀ s₁ mg mb G Y fa o pm cd doc dV kV ho hd hcd hD hmg hg args vals as hpre hlay hrd hwl hlo
 have KX := km_in_of Y
 km_tabs Y
 have X := (Ground.X G).1
 have V := (Ground.X G).2
 refine Ground.open G ?_
 intro T B D TE TW
 try (refine guard_noD D (by decide +kernel) ?_; clear D)
 have hT9 : TabsAt zdV s₁.heap := by
  intro q hq
  simp only [zdV, List.mem_cons, List.not_mem_nil, or_false] at hq
  rcases hq with rfl | rfl | rfl | rfl
  ·exact ⟨codeHd_of_K KX (by kernel_rfl), hT8 438 (by decide)⟩
  ·exact ⟨codeHd_of_K KX (by kernel_rfl), hT8 741 (by decide)⟩
  ·exact ⟨codeHd_of_K KX (by kernel_rfl), hT8 746 (by decide)⟩
  ·exact ⟨codeHd_of_K KX (by kernel_rfl), hT8 756 (by decide)⟩
 have hfa : fa = 766 := by
  have := mg_of KX T.g (n := "law") (v := .ref 766) (by kernel_rfl)
  rw [show mg (Str.ofString "law") = some (.ref fa) from hmg] at this
  cases this
  rfl
 subst hfa
 have T' := ghost_top hT9 T
 have X' := ghost_K hT9 KX (by kernel_rfl)
 have C' := ghost_code hT9
 clear ho hd hcd hD hmg V TE TW B
 wrow_args hpre hlay hrd hwl hlo
 rename_i ns _ _ _ _ _ _ _ sc _ _ _ _ w1 _ _ _ hcond _
 all_goals
  first | refine callC_kw (enter_call ?_) | refine enter_call ?_
  refine kn_post hT9 (fun _ _ => rfl) ?_
  clear G
 have hC : ∀ q ∈ zdV, CodeHd (ghostOf s₁.heap zdV) q.1 q.2 := by
  intro q hq
  simp only [zdV, List.mem_cons, List.not_mem_nil, or_false] at hq
  rcases hq with rfl | rfl | rfl | rfl
  ·exact C'.1
  ·exact C'.2.1
  ·exact C'.2.2.1
  ·exact C'.2.2.2.1
 obtain ⟨bm, ob, b1, b2, b3, b4, b5, b6⟩ := T'.bmain
 let B : zan := { prog := PySem.Challenge.rw_pq0229_01.row.prog, w := w, h₀ := ghostOf s₁.heap zdV, os := s₁.os, K := _, kin := X', nolimit := T'.nolimit, bns := ⟨mb, T'.b, T'.builtins⟩, gns := ⟨mg, bm, ob, T'.g, b1, b2, b3, b4, b5, b6⟩, tabs := zdV, codes := hC }
 have kf : KF B.K := by
  refine zag.cons (⟨by kernel_rfl, by kernel_rfl, by kernel_rfl⟩) ?_
  refine zag.cons (fe3 (T := 29) (by kernel_rfl) (by kernel_rfl) fun _ _ _ => by kernel_rfl) ?_
  refine zag.cons (fe2 (T := 29) (by kernel_rfl) (by kernel_rfl) fun _ _ => by kernel_rfl) ?_
  refine zag.cons (by kernel_rfl) ?_
  refine zag.cons (⟨by kernel_rfl, by kernel_rfl, by kernel_rfl⟩) ?_
  refine zag.cons (fb2 fun _ _ => by kernel_rfl) ?_
  refine zag.cons (⟨by kernel_rfl, by kernel_rfl, by kernel_rfl⟩) ?_
  refine zag.cons (fb2 fun _ _ => by kernel_rfl) ?_
  refine zag.cons (⟨by kernel_rfl, by kernel_rfl, by kernel_rfl⟩) ?_
  refine zag.cons (fb2 fun _ _ => by kernel_rfl) ?_
  refine zag.cons (⟨by kernel_rfl, by kernel_rfl, by kernel_rfl⟩) ?_
  refine zag.cons (fb2 fun _ _ => by kernel_rfl) ?_
  refine zag.cons (⟨by kernel_rfl, by kernel_rfl, by kernel_rfl⟩) ?_
  refine zag.cons (fb4 fun _ _ _ _ => by kernel_rfl) ?_
  refine zag.cons (⟨by kernel_rfl, by kernel_rfl, by kernel_rfl⟩) ?_
  refine zag.cons (fb3 fun _ _ _ => by kernel_rfl) ?_
  refine zag.cons (⟨by kernel_rfl, by kernel_rfl, by kernel_rfl⟩) ?_
  refine zag.cons (fb4 fun _ _ _ _ => by kernel_rfl) ?_
  refine zag.cons (⟨by kernel_rfl, by kernel_rfl, by kernel_rfl⟩) ?_
  refine zag.cons (fe5 (T := 246) (by kernel_rfl) (by kernel_rfl) fun _ _ _ _ _ => by kernel_rfl) ?_
  refine zag.cons (by kernel_rfl) ?_
  refine zag.cons (⟨by kernel_rfl, by kernel_rfl, by kernel_rfl⟩) ?_
  refine zag.cons (fb2 fun _ _ => by kernel_rfl) ?_
  refine zag.cons (⟨by kernel_rfl, by kernel_rfl, by kernel_rfl⟩) ?_
  refine zag.cons (fb4 fun _ _ _ _ => by kernel_rfl) ?_
  refine zag.cons (⟨by kernel_rfl, by kernel_rfl, by kernel_rfl⟩) ?_
  refine zag.cons (fb2 fun _ _ => by kernel_rfl) ?_
  refine zag.cons (⟨by kernel_rfl, by kernel_rfl, by kernel_rfl⟩) ?_
  refine zag.cons (fb2 fun _ _ => by kernel_rfl) ?_
  refine zag.cons (⟨by kernel_rfl, by kernel_rfl, by kernel_rfl⟩) ?_
  refine zag.cons (fb2 fun _ _ => by kernel_rfl) ?_
  refine zag.cons (⟨by kernel_rfl, by kernel_rfl, by kernel_rfl⟩) ?_
  refine zag.cons (fb2 fun _ _ => by kernel_rfl) ?_
  refine zag.cons (⟨by kernel_rfl, by kernel_rfl, by kernel_rfl⟩) ?_
  refine zag.cons (fb2 fun _ _ => by kernel_rfl) ?_
  refine zag.cons (⟨by kernel_rfl, by kernel_rfl, by kernel_rfl⟩) ?_
  refine zag.cons (fb3 fun _ _ _ => by kernel_rfl) ?_
  refine zag.cons (⟨by kernel_rfl, by kernel_rfl, by kernel_rfl⟩) ?_
  refine zag.cons (fb5 fun _ _ _ _ _ => by kernel_rfl) ?_
  refine zag.cons (⟨by kernel_rfl, by kernel_rfl, by kernel_rfl⟩) ?_
  refine zag.cons (fb2 fun _ _ => by kernel_rfl) ?_
  refine zag.cons (⟨by kernel_rfl, by kernel_rfl, by kernel_rfl⟩) ?_
  refine zag.cons (fe4 (T := 429) (by kernel_rfl) (by kernel_rfl) fun _ _ _ _ => by kernel_rfl) ?_
  refine zag.cons (by kernel_rfl) ?_
  refine zag.cons (⟨by kernel_rfl, by kernel_rfl, by kernel_rfl⟩) ?_
  refine zag.cons (fb4 fun _ _ _ _ => by kernel_rfl) ?_
  refine zag.cons (⟨by kernel_rfl, by kernel_rfl, by kernel_rfl⟩) ?_
  refine zag.cons (fb2 fun _ _ => by kernel_rfl) ?_
  refine zag.cons (⟨by kernel_rfl, by kernel_rfl, by kernel_rfl⟩) ?_
  refine zag.cons (fb1 fun _ => by kernel_rfl) ?_
  refine zag.cons (⟨by kernel_rfl, by kernel_rfl, by kernel_rfl⟩) ?_
  refine zag.cons (fb2 fun _ _ => by kernel_rfl) ?_
  refine zag.cons (⟨by kernel_rfl, by kernel_rfl, by kernel_rfl⟩) ?_
  refine zag.cons (fb2 fun _ _ => by kernel_rfl) ?_
  refine zag.cons (⟨by kernel_rfl, by kernel_rfl, by kernel_rfl⟩) ?_
  refine zag.cons (fb1 fun _ => by kernel_rfl) ?_
  refine zag.cons (⟨by kernel_rfl, by kernel_rfl, by kernel_rfl⟩) ?_
  refine zag.cons (fb6 fun _ _ _ _ _ _ => by kernel_rfl) ?_
  refine zag.cons (⟨by kernel_rfl, by kernel_rfl, by kernel_rfl⟩) ?_
  refine zag.cons (fe3 (T := 526) (by kernel_rfl) (by kernel_rfl) fun _ _ _ => by kernel_rfl) ?_
  refine zag.cons (fe2 (T := 526) (by kernel_rfl) (by kernel_rfl) fun _ _ => by kernel_rfl) ?_
  refine zag.cons (by kernel_rfl) ?_
  refine zag.cons (⟨by kernel_rfl, by kernel_rfl, by kernel_rfl⟩) ?_
  refine zag.cons (fe4 (T := 534) (by kernel_rfl) (by kernel_rfl) fun _ _ _ _ => by kernel_rfl) ?_
  refine zag.cons (by kernel_rfl) ?_
  refine zag.cons (⟨by kernel_rfl, by kernel_rfl, by kernel_rfl⟩) ?_
  refine zag.cons (fb2 fun _ _ => by kernel_rfl) ?_
  refine zag.cons (⟨by kernel_rfl, by kernel_rfl, by kernel_rfl⟩) ?_
  refine zag.cons (fe2 (T := 556) (by kernel_rfl) (by kernel_rfl) fun _ _ => by kernel_rfl) ?_
  refine zag.cons (by kernel_rfl) ?_
  refine zag.cons (⟨by kernel_rfl, by kernel_rfl, by kernel_rfl⟩) ?_
  refine zag.cons (fb5 fun _ _ _ _ _ => by kernel_rfl) ?_
  refine zag.cons (⟨by kernel_rfl, by kernel_rfl, by kernel_rfl⟩) ?_
  refine zag.cons (fb0 (by kernel_rfl)) ?_
  refine zag.cons (⟨by kernel_rfl, by kernel_rfl, by kernel_rfl⟩) ?_
  refine zag.cons (fb0 (by kernel_rfl)) ?_
  refine zag.cons (⟨by kernel_rfl, by kernel_rfl, by kernel_rfl⟩) ?_
  refine zag.cons (fe1 (T := 640) (by kernel_rfl) (by kernel_rfl) fun _ => by kernel_rfl) ?_
  refine zag.cons (by kernel_rfl) ?_
  refine zag.cons (⟨by kernel_rfl, by kernel_rfl, by kernel_rfl⟩) ?_
  refine zag.cons (fb2 fun _ _ => by kernel_rfl) ?_
  refine zag.cons (⟨by kernel_rfl, by kernel_rfl, by kernel_rfl⟩) ?_
  refine zag.cons (fb2 fun _ _ => by kernel_rfl) ?_
  refine zag.cons (⟨by kernel_rfl, by kernel_rfl, by kernel_rfl⟩) ?_
  refine zag.cons (fb2 fun _ _ => by kernel_rfl) ?_
  refine zag.cons (⟨by kernel_rfl, by kernel_rfl, by kernel_rfl⟩) ?_
  refine zag.cons (fb2 fun _ _ => by kernel_rfl) ?_
  refine zag.cons (⟨by kernel_rfl, by kernel_rfl, by kernel_rfl⟩) ?_
  refine zag.cons (fb2 fun _ _ => by kernel_rfl) ?_
  refine zag.cons (⟨by kernel_rfl, by kernel_rfl, by kernel_rfl⟩) ?_
  refine zag.cons (fb1 fun _ => by kernel_rfl) ?_
  refine zag.cons (⟨by kernel_rfl, by kernel_rfl, by kernel_rfl⟩) ?_
  refine zag.cons (fb2 fun _ _ => by kernel_rfl) ?_
  refine zag.cons (⟨by kernel_rfl, by kernel_rfl, by kernel_rfl⟩) ?_
  refine zag.cons (fb2 fun _ _ => by kernel_rfl) ?_
  refine zag.cons (⟨by kernel_rfl, by kernel_rfl, by kernel_rfl⟩) ?_
  refine zag.cons (fb1 fun _ => by kernel_rfl) ?_
  refine zag.cons (⟨by kernel_rfl, by kernel_rfl, by kernel_rfl⟩) ?_
  refine zag.cons (fb2 fun _ _ => by kernel_rfl) ?_
  refine zag.cons (⟨by kernel_rfl, by kernel_rfl, by kernel_rfl⟩) ?_
  refine zag.cons (fb3 fun _ _ _ => by kernel_rfl) ?_
  refine zag.cons (⟨by kernel_rfl, by kernel_rfl, by kernel_rfl⟩) ?_
  refine zag.cons (fb1 fun _ => by kernel_rfl) ?_
  refine zag.cons (⟨by kernel_rfl, by kernel_rfl, by kernel_rfl⟩) ?_
  refine zag.cons (fb1 fun _ => by kernel_rfl) ?_
  refine zag.cons (⟨by kernel_rfl, by kernel_rfl, by kernel_rfl⟩) ?_
  refine zag.cons (fb1 fun _ => by kernel_rfl) ?_
  refine zag.cons (⟨by kernel_rfl, by kernel_rfl, by kernel_rfl⟩) ?_
  refine zag.cons (fb0 (by kernel_rfl)) ?_
  refine zag.cons (⟨by kernel_rfl, by kernel_rfl, by kernel_rfl⟩) ?_
  refine zag.cons (fb0 (by kernel_rfl)) ?_
  refine zag.cons (⟨by kernel_rfl, by kernel_rfl, by kernel_rfl⟩) ?_
  refine zag.cons (fb1 fun _ => by kernel_rfl) ?_
  refine zag.cons (⟨by kernel_rfl, by kernel_rfl, by kernel_rfl⟩) ?_
  refine zag.cons (fb1 fun _ => by kernel_rfl) ?_
  refine zag.cons (by kernel_rfl) ?_
  refine zag.cons (by kernel_rfl) ?_
  refine zag.cons (by kernel_rfl) ?_
  refine zag.cons (by kernel_rfl) ?_
  refine zag.cons (by kernel_rfl) ?_
  refine zag.cons (by kernel_rfl) ?_
  refine zag.cons (by kernel_rfl) ?_
  refine zag.cons (by kernel_rfl) ?_
  refine zag.cons (by kernel_rfl) ?_
  refine zag.cons (by kernel_rfl) ?_
  refine zag.cons (by kernel_rfl) ?_
  refine zag.cons (by kernel_rfl) ?_
  refine zag.cons (by kernel_rfl) ?_
  refine zag.cons (by kernel_rfl) ?_
  refine zag.cons (by kernel_rfl) ?_
  refine zag.cons (by kernel_rfl) ?_
  refine zag.cons (by kernel_rfl) ?_
  refine zag.cons (by kernel_rfl) ?_
  refine zag.cons (by kernel_rfl) ?_
  refine zag.cons (by kernel_rfl) ?_
  refine zag.cons (by kernel_rfl) ?_
  refine zag.cons (by kernel_rfl) ?_
  refine zag.cons (by kernel_rfl) ?_
  refine zag.cons (by kernel_rfl) ?_
  refine zag.cons (by kernel_rfl) ?_
  refine zag.cons (by kernel_rfl) ?_
  refine zag.cons (by kernel_rfl) ?_
  refine zag.cons (by kernel_rfl) ?_
  refine zag.cons (by kernel_rfl) ?_
  refine zag.cons (by kernel_rfl) ?_
  refine zag.cons (by kernel_rfl) ?_
  refine zag.cons (by kernel_rfl) ?_
  refine zag.cons (by kernel_rfl) ?_
  refine zag.cons (by kernel_rfl) ?_
  refine zag.cons (by kernel_rfl) ?_
  refine zag.cons (by kernel_rfl) ?_
  refine zag.cons (by kernel_rfl) ?_
  refine zag.cons (by kernel_rfl) ?_
  refine zag.cons (zaY (by kernel_rfl)) ?_
  refine zag.cons (zaY (by kernel_rfl)) ?_
  refine zag.cons (by kernel_rfl) ?_
  refine zag.cons (by kernel_rfl) ?_
  refine zag.cons (by kernel_rfl) ?_
  refine zag.cons (by kernel_rfl) ?_
  refine zag.cons (by kernel_rfl) ?_
  refine zag.cons (by kernel_rfl) ?_
  refine zag.cons (by kernel_rfl) ?_
  refine zag.cons (by kernel_rfl) ?_
  refine zag.cons (by kernel_rfl) ?_
  refine zag.cons (by kernel_rfl) ?_
  refine zag.cons (by kernel_rfl) ?_
  refine zag.cons (by kernel_rfl) ?_
  refine zag.cons (by kernel_rfl) ?_
  refine zag.cons (by kernel_rfl) ?_
  refine zag.cons (by kernel_rfl) ?_
  refine zag.cons (by kernel_rfl) ?_
  refine zag.cons (by kernel_rfl) ?_
  refine zag.cons (by kernel_rfl) ?_
  refine zag.cons (by kernel_rfl) ?_
  refine zag.cons (by kernel_rfl) ?_
  refine zag.cons (by kernel_rfl) ?_
  refine zag.cons (by kernel_rfl) ?_
  refine zag.cons (by kernel_rfl) ?_
  refine zag.cons (by kernel_rfl) ?_
  refine zag.cons (by kernel_rfl) ?_
  refine zag.cons (by kernel_rfl) ?_
  refine zag.cons (by kernel_rfl) ?_
  refine zag.cons (by kernel_rfl) ?_
  refine zag.cons (by kernel_rfl) ?_
  refine zag.cons (by kernel_rfl) ?_
  refine zag.cons (zaY (by kernel_rfl)) ?_
  refine zag.cons (zaY (by kernel_rfl)) ?_
  refine zag.cons (by delta zeq; kernel_rfl) ?_
  refine zag.cons (by kernel_rfl) ?_
  refine zag.cons (by kernel_rfl) ?_
  refine zag.cons (by kernel_rfl) ?_
  refine zag.cons (by kernel_rfl) ?_
  refine zag.cons (by kernel_rfl) ?_
  refine zag.cons (zaY (by kernel_rfl)) ?_
  refine zag.cons (by kernel_rfl) ?_
  refine zag.cons (by kernel_rfl) ?_
  refine zag.cons (by kernel_rfl) ?_
  refine zag.cons (by kernel_rfl) ?_
  refine zag.cons (by kernel_rfl) ?_
  refine zag.cons (by kernel_rfl) ?_
  refine zag.cons (by kernel_rfl) ?_
  refine zag.cons (zaY (by kernel_rfl)) ?_
  refine zag.cons (zaY (by kernel_rfl)) ?_
  refine zag.cons (by kernel_rfl) ?_
  refine zag.cons (by kernel_rfl) ?_
  refine zag.cons (by kernel_rfl) ?_
  refine zag.cons (by kernel_rfl) ?_
  refine zag.cons (by kernel_rfl) ?_
  refine zag.cons (by kernel_rfl) ?_
  refine zag.cons (by kernel_rfl) ?_
  refine zag.cons (by kernel_rfl) ?_
  refine zag.cons (by kernel_rfl) ?_
  refine zag.cons (by kernel_rfl) ?_
  refine zag.cons (by kernel_rfl) ?_
  refine zag.cons (by kernel_rfl) ?_
  refine zag.cons (by kernel_rfl) ?_
  refine zag.cons (by kernel_rfl) ?_
  refine zag.cons (by kernel_rfl) ?_
  refine zag.cons (by kernel_rfl) ?_
  refine zag.cons (by kernel_rfl) ?_
  refine zag.cons (by kernel_rfl) ?_
  refine zag.cons (by kernel_rfl) ?_
  refine zag.cons (by kernel_rfl) ?_
  refine zag.cons (by kernel_rfl) ?_
  refine zag.cons (by kernel_rfl) ?_
  refine zag.cons (by kernel_rfl) ?_
  refine zag.cons (by kernel_rfl) ?_
  refine zag.cons (by kernel_rfl) ?_
  refine zag.cons (by kernel_rfl) ?_
  refine zag.cons (by kernel_rfl) ?_
  refine zag.cons (by kernel_rfl) ?_
  refine zag.cons (by kernel_rfl) ?_
  refine zag.cons (by kernel_rfl) ?_
  refine zag.cons (by kernel_rfl) ?_
  refine zag.cons (by kernel_rfl) ?_
  refine zag.cons (by kernel_rfl) ?_
  refine zag.cons (by kernel_rfl) ?_
  refine zag.cons (by kernel_rfl) ?_
  refine zag.cons (by kernel_rfl) ?_
  refine zag.cons (by kernel_rfl) ?_
  refine zag.cons (by kernel_rfl) ?_
  refine zag.cons (zaY (by kernel_rfl)) ?_
  refine zag.cons (zaY (by kernel_rfl)) ?_
  refine zag.cons (zaY (by kernel_rfl)) ?_
  refine zag.cons (zaY (by kernel_rfl)) ?_
  refine zag.cons (by delta zeq; kernel_rfl) ?_
  refine zag.cons (by delta zeq; kernel_rfl) ?_
  refine zag.cons (by delta zeq; kernel_rfl) ?_
  refine zag.cons (by kernel_rfl) ?_
  refine zag.cons (by kernel_rfl) ?_
  refine zag.cons (by kernel_rfl) ?_
  refine zag.cons (by kernel_rfl) ?_
  refine zag.cons (by kernel_rfl) ?_
  refine zag.cons (by kernel_rfl) ?_
  refine zag.cons (by kernel_rfl) ?_
  refine zag.cons (by kernel_rfl) ?_
  refine zag.cons (by kernel_rfl) ?_
  refine zag.cons (by kernel_rfl) ?_
  refine zag.cons (by kernel_rfl) ?_
  refine zag.cons (by kernel_rfl) ?_
  refine zag.cons (by kernel_rfl) ?_
  refine zag.cons (by kernel_rfl) ?_
  refine zag.cons (by kernel_rfl) ?_
  refine zag.cons (by kernel_rfl) ?_
  refine zag.cons (by kernel_rfl) ?_
  refine zag.cons (by kernel_rfl) ?_
  refine zag.cons (by kernel_rfl) ?_
  refine zag.cons (by kernel_rfl) ?_
  refine zag.cons (by kernel_rfl) ?_
  refine zag.cons (by kernel_rfl) ?_
  refine zag.cons (by kernel_rfl) ?_
  refine zag.cons (by kernel_rfl) ?_
  refine zag.cons (by kernel_rfl) ?_
  refine zag.cons (by kernel_rfl) ?_
  refine zag.cons (by kernel_rfl) ?_
  refine zag.cons (by kernel_rfl) ?_
  refine zag.cons (by kernel_rfl) ?_
  refine zag.cons (by kernel_rfl) ?_
  refine zag.cons (by kernel_rfl) ?_
  refine zag.cons (by kernel_rfl) ?_
  refine zag.cons (by kernel_rfl) ?_
  refine zag.cons (by kernel_rfl) ?_
  refine zag.cons (by kernel_rfl) ?_
  refine zag.cons (by kernel_rfl) ?_
  refine zag.cons (by kernel_rfl) ?_
  refine zag.cons (by kernel_rfl) ?_
  refine zag.cons (by kernel_rfl) ?_
  refine zag.cons (by kernel_rfl) ?_
  refine zag.cons (by kernel_rfl) ?_
  refine zag.cons (by kernel_rfl) ?_
  refine zag.cons (by kernel_rfl) ?_
  refine zag.cons (by kernel_rfl) ?_
  refine zag.cons (by delta zeq; kernel_rfl) ?_
  refine zag.cons (by kernel_rfl) ?_
  refine zag.cons (by kernel_rfl) ?_
  refine zag.cons (zaY (by kernel_rfl)) ?_
  refine zag.cons (zaY (by kernel_rfl)) ?_
  refine zag.cons (zaY (by kernel_rfl)) ?_
  refine zag.cons (zaY (by kernel_rfl)) ?_
  refine zag.cons (by kernel_rfl) ?_
  refine zag.cons (by kernel_rfl) ?_
  refine zag.cons (by kernel_rfl) ?_
  refine zag.cons (by kernel_rfl) ?_
  refine zag.cons (by kernel_rfl) ?_
  refine zag.cons (by kernel_rfl) ?_
  refine zag.cons (by kernel_rfl) ?_
  refine zag.cons (by kernel_rfl) ?_
  refine zag.cons (by kernel_rfl) ?_
  refine zag.cons (by kernel_rfl) ?_
  refine zag.cons (by kernel_rfl) ?_
  refine zag.cons (by kernel_rfl) ?_
  refine zag.cons (by kernel_rfl) ?_
  refine zag.cons (by kernel_rfl) ?_
  refine zag.cons (by kernel_rfl) ?_
  refine zag.cons (by kernel_rfl) ?_
  refine zag.cons (by kernel_rfl) ?_
  refine zag.cons (by kernel_rfl) ?_
  refine zag.cons (by kernel_rfl) ?_
  refine zag.cons (by kernel_rfl) ?_
  exact zag.nil
 have hl : ns.length ≤ 63 := by omega
 have hB : zjv B sc (ns.map .int) := by
  change Well _ _ _ (WData.list (ofPys (ns.map PyData.int))) at w1
  cases w1 with
  | list e ws => exact ⟨_, 0, ghost_get hT9 e (fun q => by cases q), by simpa using zgs ws _⟩
 have G : zaB B (zdD #[] #[] #[] #[]) s₁ := by
  refine ⟨fun b o e => of_hideAll _ e, fun p hp => ?_, by decide, fun p hp => ?_, rfl, hg⟩
  ·simp only [zdD, List.mem_cons, List.not_mem_nil, or_false] at hp
   rcases hp with rfl | rfl | rfl | rfl
   ·exact ⟨⟨nofun, nofun⟩, hT8 438 (by decide)⟩
   ·exact ⟨⟨nofun, nofun⟩, hT8 741 (by decide)⟩
   ·exact ⟨⟨nofun, nofun⟩, hT8 746 (by decide)⟩
   ·exact ⟨⟨nofun, nofun⟩, hT8 756 (by decide)⟩
  ·refine hideAll_none _ ?_
   simp only [zdD, List.mem_cons, List.not_mem_nil, or_false] at hp
   rcases hp with rfl | rfl | rfl | rfl <;> decide
 refine codeAny_mono ((zov B sc ns kf rfl hB hl).go s₁ _ _ G .ref (.cons .ref .nil)) fun r s' hr => ?_
 unfold zmf at hr
 split at hr
 ·obtain ⟨_, b, l', rv, G', rfl, p1, p2, p3, p4, hle⟩ := hr
  cases rv
  have G2 := G'.le hle
  refine ⟨⟨.inl ⟨.bool true, .bool true, [], rfl, fun _ => rfl, .bool true, by kernel_rfl, fun _ => ⟨.nil, fun _ h => nomatch h⟩⟩, G'.base, G'.os, G'.gens⟩, ?_⟩
  exact ⟨⟨_, (G2.cells _ (.head _)).2⟩, ⟨_, (G2.cells _ (.tail _ (.head _))).2⟩, ⟨_, (G2.cells _ (.tail _ (.tail _ (.head _)))).2⟩, ⟨_, (G2.cells _ (.tail _ (.tail _ (.tail _ (.head _))))).2⟩, trivial⟩
 ·exact hr.elim
 ·exact (zgO hr).elim
end Mine
theorem PySem.Challenge.cw_pq0229_01_holds : PySem.Challenge.rw_pq0229_01.Holds :=
 Mine.lay
