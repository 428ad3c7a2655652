import PyProof.Rows.All
import Wide.All
import OpenK.AllK
import Wide.FinOn
import Lean
import PySem.Challenge.RW_xm0449_01
set_option compiler.extract_closed false
set_option Elab.async false
set_option bootstrap.genMatcherCode false
set_option backward.match.sparseCases false
set_option genSizeOfSpec false
set_option genInjectivity true
set_option maxRecDepth 100000
set_option maxHeartbeats 0
set_option linter.unusedVariables false
namespace Mine.Internal.Fl
open Lean
def fm {α β : Type} (f : α → List β) (l : List α) : List β := l.foldl (fun r x => r ++ f x) []
def kd (n : Name) : Name := ((((n.replacePrefix `t `Lean.Parser.Tactic).replacePrefix `e `Lean.Parser.Term).replacePrefix `n `null).replacePrefix `g `group).replacePrefix `c `Lean.Parser.Command
def step (a : Array Syntax) (l : List (Name × Array Syntax)) (w : String) : List (Name × Array Syntax) :=
  match l with
  | (k, xs) :: r =>
    let n := w.toName
    if kd n != n then (kd n, #[]) :: l
    else if w == "}" then (match r with | (j, ys) :: t => (j, ys.push (mkNode k xs)) :: t | [] => [])
    else (k, xs.push (match w.toNat? with | some i => a[i]! | none => mkAtom w)) :: r
  | [] => []
def T (s : String) (a : Array Syntax) : Syntax := match (s.splitOn " ").foldl (step a) [(`x, #[])] with | (_, xs) :: _ => xs[0]! | [] => .missing
def nl (a : Array Syntax) : Syntax := mkNode `null a
def sq (a : Array Syntax) : Syntax := T "t.tacticSeq t.tacticSeq1Indented 0 } }" #[Syntax.mkSep a (mkAtom ";")]
def pr (a : Array Syntax) : Syntax := T "t.paren ( 0 ) }" #[sq a]
def fs (a : List Syntax) : Syntax := T "t.first first 0 }" #[nl (fm (fun t => [T "g | 0 }" #[sq #[t]]]) a).toArray]
def it (x : Syntax) : Syntax := T "t.intro intro n 0 } }" #[x]
def md (p : Syntax) : Syntax := T "t.rcasesPatMed n 0 } }" #[p]
def ob (p x : Syntax) : Syntax := T "t.obtain obtain n 0 } n } n := n 1 } } }" #[p, x]
def rc (e p : Syntax) : Syntax := T "t.rcases rcases n t.elimTarget n } 0 } } n with t.rcasesPatLo 1 n } } } }" #[e, p]
def tp (ps : Array Syntax) : Syntax := md (T "t.rcasesPat.tuple ⟨ 0 ⟩ }" #[nl ps])
def rfa (f : Syntax) (a : Array Syntax) : Syntax := T "t.refine refine e.app 0 1 } }" #[f, nl (a.push (T "e.syntheticHole ? _ }" #[]))]
def fl (s : String) : Syntax := mkIdent (.str `Mine.Internal.Fl s)
def isK (q : Syntax) (s : String) : Bool := q.getKind == kd s.toName
def na (s : Syntax) (i : Nat) : Nat := s[i].getNumArgs
def fi (s : Syntax) : List Syntax := fm (fun x => if x.isAtom then [] else [x]) s.getArgs.toList
def ins (h p : Syntax) : Syntax :=
  let q := p[0][0][0]
  if na p[0] 0 == 1 && isK q "t.rcasesPat.one" && q[0].getId != `rfl then it q[0] else pr #[it h, ob p[0] h]
def alts (h e : Syntax) (ps is : Array Syntax) : List Syntax :=
  (List.range (is.size - 1)).reverse |> fm fun k =>
    let a := if k + 2 < is.size then is.extract 0 (k + 1) ++ #[it h, ob (tp (ps.extract (2 * (k + 1)) ps.size)) h] else is
    ["ex" ++ (k + 1).repr, "and" ++ (k + 2).repr] |> fm fun s => [pr #[rfa (fl s) #[e], T "t.tacticTry_ try 0 }" #[sq #[T "t.clear clear n 0 } }" #[e]]], pr a]]
def obt (h p e : Syntax) : Syntax :=
  let q := p[0][0]
  if na p 0 != 1 || !isK q "t.rcasesPat.tuple" || na q 1 < 3 then .missing else
  fs (alts h e q[1].getArgs (fm (fun x => [ins h x]) (fi q[1])).toArray ++ [rc e p])
def big (q : Syntax) : Bool := isK q "t.rcasesPat.tuple" && na q 1 > 2
def tw (h q : Syntax) : Syntax × Syntax := if big q then (T "t.rcasesPat.one 0 }" #[h], ob (md q) h) else (q, T "t.skip skip }" #[])
def two (h e p : Syntax) : Syntax :=
  let q := p[0][0]
  if q.getNumArgs != 3 || !(big q[0] || big q[2]) || isK q[0] "t.rcasesPat.ignore" || isK q[2] "t.rcasesPat.ignore" then .missing else
  let a := tw h q[0]
  let b := tw h q[2]
  T "t.focus focus 0 }" #[sq #[rc e (T "t.rcasesPatMed n 0 1 2 } }" #[a.1, q[1], b.1]), a.2, T "t.rotateLeft rotate_left n } }" #[], b.2, T "t.rotateRight rotate_right n } }" #[]]]
def wr (t : Syntax) : Syntax := T "t.withReducibleAndInstances with_reducible_and_instances 0 }" #[sq #[t]]
def fis (t : Syntax) : Syntax := T "t.failIfSuccess fail_if_success 0 }" #[sq #[t]]
def hd (t : Syntax) : Syntax := if isK t "e.app" then t[0] else t
def ar (t : Syntax) : Array Syntax := if isK t "e.app" then t[1].getArgs else #[]
def el (t : Syntax) : Syntax := if isK t "e.app" || t.isIdent then T "e.app 0 1 }" #[hd t, nl ((ar t).push (T "e.ellipsis .. }" #[]))] else t
def nm (r : Syntax) : String := if na r 0 == 0 then (hd r[1]).getId.toString else "!"
def spT : String := "st:stT aF:optT cM:retT if_pos:ifpS if_pos:ifpT if_neg:ifnS if_neg:ifnT aC:assT eF:fzpT jR:fzlT"
def ass : Syntax := T "e.byTactic by t.tacticSeq t.tacticSeq1Indented n t.assumption assumption } } } } }" #[]
def spc (r : Syntax) : List Syntax :=
  let n := nm r
  spT.splitOn |> fm fun w => match w.splitOn ":" with | [a, f] => if a == n then let t := rfa (mkIdent f.toName) (ar r[1]); if a == "st" then [t] else if a == "aF" then [wr t, wr (rfa (mkIdent `optR) #[ass])] else [wr t] else [] | _ => []
def rw1 (r : Syntax) : Syntax :=
  let w := T "t.rewriteSeq rewrite t.optConfig n } } t.rwRuleSeq [ n 0 } ] } n } }" #[r]
  fs (spc r ++ (if (r.find? (isK · "e.byTactic")).isSome then [w] else [pr #[fis (fis w), wr (rfa (fl (if na r 0 == 0 then "stP" else "stQ")) #[el r[1]])], w]))
def rwf (r n : Syntax) (b : List Syntax) (x : Syntax) : List Syntax := fs [x, pr #[rw1 r, rw1 n]] :: b
def rwn (r n : Syntax) (a b : List Syntax) : List Syntax :=
  if nm r == "aC" && nm n == "st" then rwf r n b (rfa (mkIdent `stA) (ar n[1])) else if nm n == "aF" && nm r != "!" && (spc r).isEmpty then rwf r n b (wr (rfa (mkIdent `optR) #[r[1]])) else rw1 r :: a
def rws (l : List Syntax) : List Syntax := (l.reverse.foldl (fun (n, a, b) r => (r, rwn r n a b, a)) (Syntax.missing, [], [])).2.1
def ap (s : String) (xs : Array Syntax) : Syntax := T "e.app 0 1 }" #[fl s, nl xs]
def ands (xs : Array Syntax) : Syntax :=
  if xs.size == 1 then xs[0]! else if xs.size == 2 then T "e.anonymousCtor ⟨ 0 ⟩ }" #[Syntax.mkSep xs (mkAtom ",")] else ap ("andI" ++ xs.size.repr) xs
def ctr (t : String) (xs : Array Syntax) : List Syntax :=
  (List.range (min 9 xs.size)).reverse |> fm fun k => [T t #[if k == 0 then ands xs else ap ("exI" ++ k.repr) ((xs.extract 0 k).push (ands (xs.extract k xs.size)))]]
def lin (s : String) : Syntax :=
  let k := if s.startsWith "a" then 1 else if s.startsWith "b" then 2 else if s.startsWith "c" then 3 else 0
  wr (T "t.exact exact 0 }" #[ap s ((Array.replicate k ass).push (T "e.byTactic by t.tacticSeq t.tacticSeq1Indented n t.exact exact 0 } } } } }" #[mkIdent `rfl]))])
def np : Syntax → Syntax := Syntax.rewriteBottomUp fun
  | .node _ k a => .node .none k a
  | .atom _ v => .atom .none v
  | .ident _ r v p => .ident .none r v p
  | s => s
def nc (s : Syntax) : Syntax := if isK s[1] "c.definition" || isK s[1] "c.abbrev" || isK s[1] "c.instance" then s.setArg 0 (s[0].setArg 4 (T "n c.noncomputable noncomputable } }" #[])) else s
def casT : String := "PySem.Expr Mine.Internal.V List Option Bool Nat Or And Exists Mine.Internal.Pl.U Mine.Internal.O PySem.Stmt Prod PySem.Operator PySem.CmpOp PySem.UnaryOp Mine.Internal.Fl PySem.Const PySem.Value Mine.Internal.Pl.Row PySem.NameKind Mine.Internal.Pl.Side Mine.Internal.Pl.Tp Mine.Internal.Pl.At"
def mac (h s : Syntax) : Syntax :=
  let n := na s
  let y := s[1][0]
  if isK s "t.obtain" then if n 1 == 1 && n 2 == 0 && n 3 == 2 && na s[3] 1 == 1 then obt h y s[3][1][0] else .missing
  else if isK s "t.rcases" then if n 1 == 1 && n 2 == 2 && na y 0 == 0 then two h y[1] s[2][1] else .missing
  else if isK s "t.cases" then
    let x := y[1]
    if n 1 == 1 && na y 0 == 0 && x.isIdent && n 2 == 0 then
      fs ((casT.splitOn |> fm fun c => [T "t.induction induction n t.elimTarget n } 0 } } n using 1 } n } 2 }" #[x, mkIdent (.str c.toName (if c == "Nat" then "casesAuxOn" else "casesOn")), s[3]]]) ++ (if n 3 == 0 then [fl "sI", mkIdent `rI] |> fm fun f => [pr #[rfa f #[x], T "t.clear clear n 0 } }" #[x], it x, T "t.subst subst n 0 } }" #[x]]] else []) ++ [T "t.cases cases n t.elimTarget n } e.paren ( 0 ) } } } n } 1 }" #[x, s[3]]])
    else .missing
  else if isK s "t.rwSeq" then
    if na s[1] 0 == 0 && n 3 == 0 then
      pr ((rws (fi s[2][1])).toArray.push (T "t.tacticTry_ try 0 }" #[sq #[T "t.withReducible with_reducible 0 }" #[sq #[T "t.tacticRfl rfl }" #[]]]]]))
    else .missing
  else if isK s "t.show" then fs [T "t.refine refine e.typeAscription ( e.syntheticHole ? _ } : n 0 } ) } }" #[s[1]], T "t.change change 0 n } }" #[s[1]]]
  else if isK s "t.tacticNofun" then T "t.decide decide t.optConfig n t.configItem t.posConfigItem + 0 } } } } }" #[mkIdent `kernel]
  else if isK s "t.lia" then
    if n 1 > 1 then .missing else
      fs (wr (T "t.assumption assumption }" #[]) :: ("z1 z2 z3 z4 z5 a1 a2 a3 a4 a5 a6 a7 a8 a9 a10 a11 a14 a15 a16 a17 a18 a19 b1 b2 b4 b5 b6 b7 b9 b12 b13 b14 b15 b16 b17 b18 b19 b20 b21 b22 b23 c1 c2 c4 c5 c6 c7 c8 c9 c10".splitOn |> fm fun w => [lin w]) ++ [T "t.lia lia t.optConfig n } n } } }" #[]])
  else
    let t := s[1]
    let xs := (fi t[1]).toArray
    if !isK t "e.anonymousCtor" || xs.size < 3 then .missing else
      let p := if isK s "t.exact" then "t.exact exact 0 }" else "t.refine refine 0 }"
      fs (ctr p xs ++ [T p #[T "e.paren ( 0 ) }" #[t]]])
def mc (s : Syntax) : MacroM Syntax := do
  let r := mac (mkIdent (← Macro.addMacroScope `hh)) s
  if r.isMissing then Macro.throwUnsupported else return r
end Mine.Internal.Fl
section
open Lean in
local macro_rules (kind := Lean.Elab.Tactic.Ext.ext) | s => `(tactic|kernel_rfl)
open Mine.Internal.Fl in
local macro_rules (kind := Lean.Parser.Tactic.obtain) | s => mc s
open Mine.Internal.Fl in
local macro_rules (kind := Lean.Parser.Tactic.rcases) | s => mc s
open Mine.Internal.Fl in
local macro_rules (kind := Lean.Parser.Tactic.cases) | s => mc s
open Mine.Internal.Fl in
local macro_rules (kind := Lean.Parser.Tactic.rwSeq) | s => mc s
open Mine.Internal.Fl in
local macro_rules (kind := Lean.Parser.Tactic.show) | s => mc s
open Mine.Internal.Fl in
local macro_rules (kind := Lean.Parser.Tactic.exact) | s => mc s
open Mine.Internal.Fl in
local macro_rules (kind := Lean.Parser.Tactic.refine) | s => mc s
open Mine.Internal.Fl in
local macro_rules (kind := Lean.Parser.Tactic.lia) | s => mc s
open Mine.Internal.Fl in
local macro_rules (kind := Lean.Parser.Tactic.tacticNofun) | s => mc s
open Lean Mine.Internal.Fl in
local macro_rules (kind := Lean.Parser.Command.mutual)
  | s => if s.getPos?.isNone then Macro.throwUnsupported else
    let s := np s
    return s.setArg 1 (mkNullNode (s[1].getArgs.map nc))
open Lean Mine.Internal.Fl in
local macro_rules (kind := Lean.Parser.Command.declaration)
  | s => if s.getPos?.isNone then Macro.throwUnsupported else return nc (np s)
namespace Mine.Internal.Fl
theorem and2 {A B G:Prop} (h:A∧B) (k:A→B→G):G:=k h.1 h.2
@[elab_as_elim] theorem stP.{u} {α:Sort u} {Φ:α→Prop} {a b:α} (h:a=b) (x:Φ b):Φ a:=h▸x
@[elab_as_elim] theorem stQ.{u} {α:Sort u} {Φ:α→Prop} {a b:α} (h:a=b) (x:Φ a):Φ b:=h▸x
theorem and3 {A B C G:Prop} (h:A∧B∧C) (k:A→B→C→G):G:=and2 h.2 (k h.1)
theorem and4 {A B C D G:Prop} (h:A∧B∧C∧D) (k:A→B→C→D→G):G:=and3 h.2 (k h.1)
theorem and5 {A B C D E G:Prop} (h:A∧B∧C∧D∧E) (k:A→B→C→D→E→G):G:=and4 h.2 (k h.1)
theorem and6 {A B C D E F G:Prop} (h:A∧B∧C∧D∧E∧F) (k:A→B→C→D→E→F→G):G:=and5 h.2 (k h.1)
theorem and7 {A B C D E F H G:Prop} (h:A∧B∧C∧D∧E∧F∧H) (k:A→B→C→D→E→F→H→G):G:=and6 h.2 (k h.1)
theorem and8 {A B C D E F H I G:Prop} (h:A∧B∧C∧D∧E∧F∧H∧I) (k:A→B→C→D→E→F→H→I→G):G:=and7 h.2 (k h.1)
theorem and9 {A B C D E F H I J G:Prop} (h:A∧B∧C∧D∧E∧F∧H∧I∧J) (k:A→B→C→D→E→F→H→I→J→G):G:=and8 h.2 (k h.1)
theorem and10 {A B C D E F H I J K G:Prop} (h:A∧B∧C∧D∧E∧F∧H∧I∧J∧K) (k:A→B→C→D→E→F→H→I→J→K→G):G:=and9 h.2 (k h.1)
theorem and11 {A B C D E F H I J K L G:Prop} (h:A∧B∧C∧D∧E∧F∧H∧I∧J∧K∧L) (k:A→B→C→D→E→F→H→I→J→K→L→G):G:=and10 h.2 (k h.1)
theorem and12 {A B C D E F H I J K L M G:Prop} (h:A∧B∧C∧D∧E∧F∧H∧I∧J∧K∧L∧M) (k:A→B→C→D→E→F→H→I→J→K→L→M→G):G:=and11 h.2 (k h.1)
theorem and13 {A B C D E F H I J K L M N G:Prop} (h:A∧B∧C∧D∧E∧F∧H∧I∧J∧K∧L∧M∧N) (k:A→B→C→D→E→F→H→I→J→K→L→M→N→G):G:=and12 h.2 (k h.1)
theorem and14 {A B C D E F H I J K L M N O G:Prop} (h:A∧B∧C∧D∧E∧F∧H∧I∧J∧K∧L∧M∧N∧O) (k:A→B→C→D→E→F→H→I→J→K→L→M→N→O→G):G:=and13 h.2 (k h.1)
theorem and15 {A B C D E F H I J K L M N O P G:Prop} (h:A∧B∧C∧D∧E∧F∧H∧I∧J∧K∧L∧M∧N∧O∧P) (k:A→B→C→D→E→F→H→I→J→K→L→M→N→O→P→G):G:=and14 h.2 (k h.1)
theorem and16 {A B C D E F H I J K L M N O P Q G:Prop} (h:A∧B∧C∧D∧E∧F∧H∧I∧J∧K∧L∧M∧N∧O∧P∧Q) (k:A→B→C→D→E→F→H→I→J→K→L→M→N→O→P→Q→G):G:=and15 h.2 (k h.1)
theorem and17 {A B C D E F H I J K L M N O P Q R G:Prop} (h:A∧B∧C∧D∧E∧F∧H∧I∧J∧K∧L∧M∧N∧O∧P∧Q∧R) (k:A→B→C→D→E→F→H→I→J→K→L→M→N→O→P→Q→R→G):G:=and16 h.2 (k h.1)
theorem and18 {A B C D E F H I J K L M N O P Q R S G:Prop} (h:A∧B∧C∧D∧E∧F∧H∧I∧J∧K∧L∧M∧N∧O∧P∧Q∧R∧S) (k:A→B→C→D→E→F→H→I→J→K→L→M→N→O→P→Q→R→S→G):G:=and17 h.2 (k h.1)
theorem and19 {A B C D E F H I J K L M N O P Q R S T G:Prop} (h:A∧B∧C∧D∧E∧F∧H∧I∧J∧K∧L∧M∧N∧O∧P∧Q∧R∧S∧T) (k:A→B→C→D→E→F→H→I→J→K→L→M→N→O→P→Q→R→S→T→G):G:=and18 h.2 (k h.1)
theorem and20 {A B C D E F H I J K L M N O P Q R S T U G:Prop} (h:A∧B∧C∧D∧E∧F∧H∧I∧J∧K∧L∧M∧N∧O∧P∧Q∧R∧S∧T∧U) (k:A→B→C→D→E→F→H→I→J→K→L→M→N→O→P→Q→R→S→T→U→G):G:=and19 h.2 (k h.1)
theorem and21 {A B C D E F H I J K L M N O P Q R S T U V G:Prop} (h:A∧B∧C∧D∧E∧F∧H∧I∧J∧K∧L∧M∧N∧O∧P∧Q∧R∧S∧T∧U∧V) (k:A→B→C→D→E→F→H→I→J→K→L→M→N→O→P→Q→R→S→T→U→V→G):G:=and20 h.2 (k h.1)
theorem ex1.{u1} {T1:Sort u1} {P:T1→Prop} {G:Prop} (h:∃x1,P x1) (k:∀x1,P x1→G):G:=Exists.elim h k
theorem ex2.{u1,u2} {T1:Sort u1} {T2:Sort u2} {P:T1→T2→Prop} {G:Prop} (h:∃x1 x2,P x1 x2) (k:∀x1 x2,P x1 x2→G):G:=Exists.elim h fun x q=>ex1 q (k x)
theorem ex3.{u1,u2,u3} {T1:Sort u1} {T2:Sort u2} {T3:Sort u3} {P:T1→T2→T3→Prop} {G:Prop} (h:∃x1 x2 x3,P x1 x2 x3) (k:∀x1 x2 x3,P x1 x2 x3→G):G:=Exists.elim h fun x q=>ex2 q (k x)
theorem ex4.{u1,u2,u3,u4} {T1:Sort u1} {T2:Sort u2} {T3:Sort u3} {T4:Sort u4} {P:T1→T2→T3→T4→Prop} {G:Prop} (h:∃x1 x2 x3 x4,P x1 x2 x3 x4) (k:∀x1 x2 x3 x4,P x1 x2 x3 x4→G):G:=Exists.elim h fun x q=>ex3 q (k x)
theorem ex5.{u1,u2,u3,u4,u5} {T1:Sort u1} {T2:Sort u2} {T3:Sort u3} {T4:Sort u4} {T5:Sort u5} {P:T1→T2→T3→T4→T5→Prop} {G:Prop} (h:∃x1 x2 x3 x4 x5,P x1 x2 x3 x4 x5) (k:∀x1 x2 x3 x4 x5,P x1 x2 x3 x4 x5→G):G:=Exists.elim h fun x q=>ex4 q (k x)
theorem ex6.{u1,u2,u3,u4,u5,u6} {T1:Sort u1} {T2:Sort u2} {T3:Sort u3} {T4:Sort u4} {T5:Sort u5} {T6:Sort u6} {P:T1→T2→T3→T4→T5→T6→Prop} {G:Prop} (h:∃x1 x2 x3 x4 x5 x6,P x1 x2 x3 x4 x5 x6) (k:∀x1 x2 x3 x4 x5 x6,P x1 x2 x3 x4 x5 x6→G):G:=Exists.elim h fun x q=>ex5 q (k x)
theorem ex7.{u1,u2,u3,u4,u5,u6,u7} {T1:Sort u1} {T2:Sort u2} {T3:Sort u3} {T4:Sort u4} {T5:Sort u5} {T6:Sort u6} {T7:Sort u7} {P:T1→T2→T3→T4→T5→T6→T7→Prop} {G:Prop} (h:∃x1 x2 x3 x4 x5 x6 x7,P x1 x2 x3 x4 x5 x6 x7) (k:∀x1 x2 x3 x4 x5 x6 x7,P x1 x2 x3 x4 x5 x6 x7→G):G:=Exists.elim h fun x q=>ex6 q (k x)
theorem ex8.{u1,u2,u3,u4,u5,u6,u7,u8} {T1:Sort u1} {T2:Sort u2} {T3:Sort u3} {T4:Sort u4} {T5:Sort u5} {T6:Sort u6} {T7:Sort u7} {T8:Sort u8} {P:T1→T2→T3→T4→T5→T6→T7→T8→Prop} {G:Prop} (h:∃x1 x2 x3 x4 x5 x6 x7 x8,P x1 x2 x3 x4 x5 x6 x7 x8) (k:∀x1 x2 x3 x4 x5 x6 x7 x8,P x1 x2 x3 x4 x5 x6 x7 x8→G):G:=Exists.elim h fun x q=>ex7 q (k x)
theorem exI1.{u1} {T1:Sort u1} {P:T1→Prop} (x1:T1) (h:P x1):∃x1,P x1:=⟨x1,h⟩
theorem exI2.{u1,u2} {T1:Sort u1} {T2:Sort u2} {P:T1→T2→Prop} (x1:T1) (x2:T2) (h:P x1 x2):∃x1 x2,P x1 x2:=⟨x1,x2,h⟩
theorem exI3.{u1,u2,u3} {T1:Sort u1} {T2:Sort u2} {T3:Sort u3} {P:T1→T2→T3→Prop} (x1:T1) (x2:T2) (x3:T3) (h:P x1 x2 x3):∃x1 x2 x3,P x1 x2 x3:=⟨x1,x2,x3,h⟩
theorem exI4.{u1,u2,u3,u4} {T1:Sort u1} {T2:Sort u2} {T3:Sort u3} {T4:Sort u4} {P:T1→T2→T3→T4→Prop} (x1:T1) (x2:T2) (x3:T3) (x4:T4) (h:P x1 x2 x3 x4):∃x1 x2 x3 x4,P x1 x2 x3 x4:=⟨x1,x2,x3,x4,h⟩
theorem exI5.{u1,u2,u3,u4,u5} {T1:Sort u1} {T2:Sort u2} {T3:Sort u3} {T4:Sort u4} {T5:Sort u5} {P:T1→T2→T3→T4→T5→Prop} (x1:T1) (x2:T2) (x3:T3) (x4:T4) (x5:T5) (h:P x1 x2 x3 x4 x5):∃x1 x2 x3 x4 x5,P x1 x2 x3 x4 x5:=⟨x1,x2,x3,x4,x5,h⟩
theorem exI6.{u1,u2,u3,u4,u5,u6} {T1:Sort u1} {T2:Sort u2} {T3:Sort u3} {T4:Sort u4} {T5:Sort u5} {T6:Sort u6} {P:T1→T2→T3→T4→T5→T6→Prop} (x1:T1) (x2:T2) (x3:T3) (x4:T4) (x5:T5) (x6:T6) (h:P x1 x2 x3 x4 x5 x6):∃x1 x2 x3 x4 x5 x6,P x1 x2 x3 x4 x5 x6:=⟨x1,x2,x3,x4,x5,x6,h⟩
theorem exI7.{u1,u2,u3,u4,u5,u6,u7} {T1:Sort u1} {T2:Sort u2} {T3:Sort u3} {T4:Sort u4} {T5:Sort u5} {T6:Sort u6} {T7:Sort u7} {P:T1→T2→T3→T4→T5→T6→T7→Prop} (x1:T1) (x2:T2) (x3:T3) (x4:T4) (x5:T5) (x6:T6) (x7:T7) (h:P x1 x2 x3 x4 x5 x6 x7):∃x1 x2 x3 x4 x5 x6 x7,P x1 x2 x3 x4 x5 x6 x7:=⟨x1,x2,x3,x4,x5,x6,x7,h⟩
theorem exI8.{u1,u2,u3,u4,u5,u6,u7,u8} {T1:Sort u1} {T2:Sort u2} {T3:Sort u3} {T4:Sort u4} {T5:Sort u5} {T6:Sort u6} {T7:Sort u7} {T8:Sort u8} {P:T1→T2→T3→T4→T5→T6→T7→T8→Prop} (x1:T1) (x2:T2) (x3:T3) (x4:T4) (x5:T5) (x6:T6) (x7:T7) (x8:T8) (h:P x1 x2 x3 x4 x5 x6 x7 x8):∃x1 x2 x3 x4 x5 x6 x7 x8,P x1 x2 x3 x4 x5 x6 x7 x8:=⟨x1,x2,x3,x4,x5,x6,x7,x8,h⟩
theorem andI3 {A B C:Prop} (h1:A) (h2:B) (h3:C):A∧B∧C:=⟨h1,h2,h3⟩
theorem andI4 {A B C D:Prop} (h1:A) (h2:B) (h3:C) (h4:D):A∧B∧C∧D:=⟨h1,andI3 h2 h3 h4⟩
theorem andI5 {A B C D E:Prop} (h1:A) (h2:B) (h3:C) (h4:D) (h5:E):A∧B∧C∧D∧E:=⟨h1,andI4 h2 h3 h4 h5⟩
theorem andI6 {A B C D E F:Prop} (h1:A) (h2:B) (h3:C) (h4:D) (h5:E) (h6:F):A∧B∧C∧D∧E∧F:=⟨h1,andI5 h2 h3 h4 h5 h6⟩
theorem andI7 {A B C D E F H:Prop} (h1:A) (h2:B) (h3:C) (h4:D) (h5:E) (h6:F) (h7:H):A∧B∧C∧D∧E∧F∧H:=⟨h1,andI6 h2 h3 h4 h5 h6 h7⟩
theorem andI8 {A B C D E F H I:Prop} (h1:A) (h2:B) (h3:C) (h4:D) (h5:E) (h6:F) (h7:H) (h8:I):A∧B∧C∧D∧E∧F∧H∧I:=⟨h1,andI7 h2 h3 h4 h5 h6 h7 h8⟩
theorem andI9 {A B C D E F H I J:Prop} (h1:A) (h2:B) (h3:C) (h4:D) (h5:E) (h6:F) (h7:H) (h8:I) (h9:J):A∧B∧C∧D∧E∧F∧H∧I∧J:=⟨h1,andI8 h2 h3 h4 h5 h6 h7 h8 h9⟩
theorem andI10 {A B C D E F H I J K:Prop} (h1:A) (h2:B) (h3:C) (h4:D) (h5:E) (h6:F) (h7:H) (h8:I) (h9:J) (h10:K):A∧B∧C∧D∧E∧F∧H∧I∧J∧K:=⟨h1,andI9 h2 h3 h4 h5 h6 h7 h8 h9 h10⟩
theorem andI11 {A B C D E F H I J K L:Prop} (h1:A) (h2:B) (h3:C) (h4:D) (h5:E) (h6:F) (h7:H) (h8:I) (h9:J) (h10:K) (h11:L):A∧B∧C∧D∧E∧F∧H∧I∧J∧K∧L:=⟨h1,andI10 h2 h3 h4 h5 h6 h7 h8 h9 h10 h11⟩
theorem andI12 {A B C D E F H I J K L M:Prop} (h1:A) (h2:B) (h3:C) (h4:D) (h5:E) (h6:F) (h7:H) (h8:I) (h9:J) (h10:K) (h11:L) (h12:M):A∧B∧C∧D∧E∧F∧H∧I∧J∧K∧L∧M:=⟨h1,andI11 h2 h3 h4 h5 h6 h7 h8 h9 h10 h11 h12⟩
theorem andI13 {A B C D E F H I J K L M N:Prop} (h1:A) (h2:B) (h3:C) (h4:D) (h5:E) (h6:F) (h7:H) (h8:I) (h9:J) (h10:K) (h11:L) (h12:M) (h13:N):A∧B∧C∧D∧E∧F∧H∧I∧J∧K∧L∧M∧N:=⟨h1,andI12 h2 h3 h4 h5 h6 h7 h8 h9 h10 h11 h12 h13⟩
theorem andI14 {A B C D E F H I J K L M N O:Prop} (h1:A) (h2:B) (h3:C) (h4:D) (h5:E) (h6:F) (h7:H) (h8:I) (h9:J) (h10:K) (h11:L) (h12:M) (h13:N) (h14:O):A∧B∧C∧D∧E∧F∧H∧I∧J∧K∧L∧M∧N∧O:=⟨h1,andI13 h2 h3 h4 h5 h6 h7 h8 h9 h10 h11 h12 h13 h14⟩
theorem andI15 {A B C D E F H I J K L M N O P:Prop} (h1:A) (h2:B) (h3:C) (h4:D) (h5:E) (h6:F) (h7:H) (h8:I) (h9:J) (h10:K) (h11:L) (h12:M) (h13:N) (h14:O) (h15:P):A∧B∧C∧D∧E∧F∧H∧I∧J∧K∧L∧M∧N∧O∧P:=⟨h1,andI14 h2 h3 h4 h5 h6 h7 h8 h9 h10 h11 h12 h13 h14 h15⟩
theorem go1.{u1,w} {α:Sort w} {T1:Sort u1} {E:α} {v:T1→α} {Q:T1→Prop} (h:∀Φ:α→Prop,(∀y,(∃x1,y=v x1∧Q x1)→Φ y)→Φ E):∃x1,E=v x1∧Q x1:=h (fun y=>∃x1,y=v x1∧Q x1) fun _ q=>q
theorem go2.{u1,u2,w} {α:Sort w} {T1:Sort u1} {T2:Sort u2} {E:α} {v:T1→T2→α} {Q:T1→T2→Prop} (h:∀Φ:α→Prop,(∀y,(∃x1 x2,y=v x1 x2∧Q x1 x2)→Φ y)→Φ E):∃x1 x2,E=v x1 x2∧Q x1 x2:=h (fun y=>∃x1 x2,y=v x1 x2∧Q x1 x2) fun _ q=>q
theorem go3.{u1,u2,u3,w} {α:Sort w} {T1:Sort u1} {T2:Sort u2} {T3:Sort u3} {E:α} {v:T1→T2→T3→α} {Q:T1→T2→T3→Prop} (h:∀Φ:α→Prop,(∀y,(∃x1 x2 x3,y=v x1 x2 x3∧Q x1 x2 x3)→Φ y)→Φ E):∃x1 x2 x3,E=v x1 x2 x3∧Q x1 x2 x3:=h (fun y=>∃x1 x2 x3,y=v x1 x2 x3∧Q x1 x2 x3) fun _ q=>q
theorem sI.{u} {α:Type u} {a b:α} {G:Prop} (h:some a=some b) (k:a=b→G):G:=k (Option.some.inj h)
@[elab_as_elim] theorem opq1.{u} {α:Sort u} {G:α→Prop} (t:α) (h:∀P:α→Prop,(∀t,G t→P t)→P t):G t:=h G fun _ q=>q
@[elab_as_elim] theorem opq2.{u,v} {α:Sort u} {β:Sort v} {G:α→β→Prop} (s:α) (t:β) (h:∀P:α→β→Prop,(∀s t,G s t→P s t)→P s t):G s t:=h G fun _ _ q=>q
@[elab_as_elim] theorem opq3.{u,v,w} {α:Sort u} {β:Sort v} {γ:Sort w} {G:α→β→γ→Prop} (r:α) (s:β) (t:γ) (h:∀P:α→β→γ→Prop,(∀r s t,G r s t→P r s t)→P r s t):G r s t:=h G fun _ _ _ q=>q
theorem opqJ.{u,v} {α:Sort u} {β:Sort v} {G:Prop} (J:α→β→Prop) (h:∀P:α→β→Prop,(∀{a b},J a b→P a b)→(∀{a b},P a b→J a b)→G):G:=h J (fun q=>q) (fun q=>q)
section
variable {x y z a b c d k l:Nat}
theorem z1 (e:Nat.ble a b=true):a≤b:=Nat.le_of_ble_eq_true e
theorem z2 (e:Nat.ble (a + 1) b=true):a < b:=Nat.le_of_ble_eq_true e
theorem z3 (e:Nat.beq a b=false):¬x + a=x + b:=fun h=>Nat.ne_of_beq_eq_false e (Nat.add_left_cancel h)
theorem z4 (e:Nat.ble 1 a=true):¬x=x + a:=Nat.ne_of_lt (Nat.lt_add_of_pos_right (Nat.le_of_ble_eq_true e))
theorem z5 (e:Nat.ble 1 a=true):¬x + a=x:=fun h=>z4 e h.symm
theorem a1 (h:x < d) (e:Nat.ble d b=true):x < b:=Nat.lt_of_lt_of_le h (z1 e)
theorem a2 (h:x≤d) (e:Nat.ble (d + 1) b=true):x < b:=Nat.lt_of_le_of_lt h (z2 e)
theorem a3 (h:x≤d) (e:Nat.ble d b=true):x≤b:=Nat.le_trans h (z1 e)
theorem a4 (h:x < d) (e:Nat.ble d (b + 1)=true):x≤b:=Nat.le_of_lt_succ (a1 h e)
theorem a5 (h:x≤d) (e:Nat.ble (d + a) b=true):x + a≤b:=a3 (Nat.add_le_add_right h a) e
theorem a6 (h:x < d) (e:Nat.ble (d + a) b=true):x + a < b:=a1 (Nat.add_lt_add_right h a) e
theorem a7 (h:x≤d) (e:Nat.ble (d + a + 1) b=true):x + a < b:=a2 (Nat.add_le_add_right h a) e
theorem a8 (h:x + y < d) (e:Nat.ble d b=true):x < b:=a1 (Nat.lt_of_le_of_lt (Nat.le_add_right x y) h) e
theorem a9 (h:x + y≤d) (e:Nat.ble d b=true):x≤b:=a3 (Nat.le_trans (Nat.le_add_right x y) h) e
theorem a10 (h:x + y≤d) (e:Nat.ble (d + 1) b=true):x < b:=a2 (Nat.le_trans (Nat.le_add_right x y) h) e
theorem a11 (h:x≤y + c) (e:Nat.ble c b=true):x≤y + b:=Nat.le_trans h (Nat.add_le_add_left (z1 e) y)
theorem a14 (h:k≤x) (e:Nat.ble (l + 1) (k + a)=true):¬l=x + a:=Nat.ne_of_lt (Nat.lt_of_lt_of_le (z2 e) (Nat.add_le_add_right h a))
theorem a15 (h:k≤x) (e:Nat.ble (l + 1) k=true):¬l=x:=Nat.ne_of_lt (Nat.lt_of_lt_of_le (z2 e) h)
theorem a16 (h:x=y) (e:Nat.ble 0 0=true):x≤y:=Nat.le_of_eq h
theorem a17 (h:x < y) (e:Nat.ble 0 0=true):¬x=y:=Nat.ne_of_lt h
theorem a18 (h:x < y) (e:Nat.ble 0 0=true):¬y=x:=Nat.ne_of_gt h
theorem b1 (h:x≤y + c) (h2:y < d) (e:Nat.ble (d + c) b=true):x < b:=Nat.lt_of_le_of_lt h (a6 h2 e)
theorem b2 (h:x≤y + c) (h2:y≤d) (e:Nat.ble (d + c + 1) b=true):x < b:=Nat.lt_of_le_of_lt h (a7 h2 e)
theorem b4 (h:x≤y) (h2:y < d) (e:Nat.ble d b=true):x < b:=Nat.lt_of_le_of_lt h (a1 h2 e)
theorem b5 (h:x≤y) (h2:y≤d) (e:Nat.ble (d + 1) b=true):x < b:=Nat.lt_of_le_of_lt h (a2 h2 e)
theorem b6 (h:x≤y) (h2:y≤d) (e:Nat.ble d b=true):x≤b:=Nat.le_trans h (a3 h2 e)
theorem b7 (h:x=y) (h2:y < d) (e:Nat.ble d b=true):x < b:=h▸a1 h2 e
theorem b9 (h:x=y) (h2:y≤d) (e:Nat.ble d b=true):x≤b:=h▸a3 h2 e
theorem b12 (h:y=x) (h2:y≤d) (e:Nat.ble d b=true):x≤b:=h▸a3 h2 e
theorem b13 (h:x≤y + c) (h2:y≤z + d) (e:Nat.ble (d + c) b=true):x≤z + b:=Nat.le_trans h (Nat.le_trans (Nat.add_le_add_right h2 c) (Nat.add_assoc z d c▸Nat.add_le_add_left (z1 e) z))
theorem b14 (h:x < k) (h2:k≤y) (e:Nat.ble 0 0=true):¬x=y + a:=Nat.ne_of_lt (Nat.lt_of_lt_of_le h (Nat.le_trans h2 (Nat.le_add_right y a)))
theorem b15 (h:x < k) (h2:k≤y) (e:Nat.ble 0 0=true):¬x=y:=Nat.ne_of_lt (Nat.lt_of_lt_of_le h h2)
theorem c1 (h:x≤y + c) (h2:y≤z + a) (h3:z < d) (e:Nat.ble (d + a + c) b=true):x < b:=Nat.lt_of_le_of_lt h (Nat.lt_of_lt_of_le (Nat.add_lt_add_right (Nat.lt_of_le_of_lt h2 (Nat.add_lt_add_right h3 a)) c) (z1 e))
theorem c2 (h:x≤y + c) (h2:y≤z + a) (h3:z≤d) (e:Nat.ble (d + a + c) b=true):x≤b:=Nat.le_trans h (Nat.le_trans (Nat.add_le_add_right (Nat.le_trans h2 (Nat.add_le_add_right h3 a)) c) (z1 e))
theorem a19 (h:x + c * (l + 1)≤y) (e:Nat.ble 0 0=true):x + c * l≤y:=Nat.le_trans (Nat.add_le_add_left (Nat.mul_le_mul_left c (Nat.le_succ l)) x) h
theorem m2 (h:x + c * (l + 1)≤z):x + c + c * l≤z:=by rw [Nat.mul_succ,Nat.add_comm (c * l),←Nat.add_assoc] at h; exact h
theorem b16 (h:x + c * (l + 1)≤z) (h2:y≤x + c) (e:Nat.ble 0 0=true):y + c * l≤z:=Nat.le_trans (Nat.add_le_add_right h2 _) (m2 h)
theorem b17 (h:x + c * (l + 1)≤z) (h2:y≤c) (e:Nat.ble 0 0=true):x + y + c * l≤z:=Nat.le_trans (Nat.add_le_add_right (Nat.add_le_add_left h2 x) _) (m2 h)
theorem b18 (h:x + (l + 1)≤z) (h2:y≤1) (e:Nat.ble 0 0=true):x + y + l≤z:=Nat.le_trans (Nat.add_le_add_right (Nat.add_le_add_left h2 x) l) (Nat.le_trans (Nat.le_of_eq (by rw [Nat.add_assoc,Nat.add_comm 1])) h)
theorem m3 (h:x + c * (l + 1)≤z + c * k) (hk:k≤d):x + c≤z + c * d:=Nat.le_trans (Nat.le_trans (Nat.le_add_right _ _) (m2 h)) (Nat.add_le_add_left (Nat.mul_le_mul_left c hk) z)
theorem m4 (h:x + c * (l + 1)≤c * k) (hk:k≤d):x + c≤c * d:=Nat.le_trans (Nat.le_trans (Nat.le_add_right _ _) (m2 h)) (Nat.mul_le_mul_left c hk)
theorem b19 (h:x + c * (l + 1)≤c * k) (hk:k≤d) (e:Nat.ble (c * d) b=true):x≤b:=Nat.le_trans (Nat.le_trans (Nat.le_add_right x c) (m4 h hk)) (z1 e)
theorem b20 (h:x + c * 0≤z + c * k) (hk:k≤d) (e:Nat.ble (c * d) b=true):x≤z + b:=Nat.le_trans h (Nat.add_le_add_left (Nat.le_trans (Nat.mul_le_mul_left c hk) (z1 e)) z)
theorem b21 (h:x + c * 0≤c * k) (hk:k≤d) (e:Nat.ble (c * d) b=true):x≤b:=Nat.le_trans h (Nat.le_trans (Nat.mul_le_mul_left c hk) (z1 e))
theorem b22 (h:x≤k) (h2:y≤l) (e:Nat.ble (k + l) b=true):x + y≤b:=Nat.le_trans (Nat.add_le_add h h2) (z1 e)
theorem b23 (h:x < k) (h2:y≤l) (e:Nat.ble (k + l) b=true):x + y < b:=Nat.lt_of_lt_of_le (Nat.add_lt_add_of_lt_of_le h h2) (z1 e)
theorem c4 (h:x + c * (l + 1)≤c * k) (hk:k≤d) (h2:y≤c) (e:Nat.ble (c * d) b=true):x + y≤b:=Nat.le_trans (Nat.le_trans (Nat.add_le_add_left h2 x) (m4 h hk)) (z1 e)
theorem c5 (h:x + c * (l + 1)≤z + c * k) (hk:k≤d) (h2:y≤x + c) (e:Nat.ble (c * d) b=true):y≤z + b:=Nat.le_trans h2 (Nat.le_trans (m3 h hk) (Nat.add_le_add_left (z1 e) z))
theorem c6 (h:x + c * (l + 1)≤z + c * k) (hk:k≤d) (hz:z < a) (e:Nat.ble (a + c * d) b=true):x < b:=Nat.lt_of_le_of_lt (Nat.le_trans (Nat.le_add_right x c) (m3 h hk)) (a6 hz e)
theorem c7 (h:x + c * (l + 1)≤c * k) (hk:k≤d) (hz:z < a) (e:Nat.ble (a + c * d) b=true):z + x < b:=Nat.lt_of_lt_of_le (Nat.add_lt_add_of_lt_of_le hz (Nat.le_trans (Nat.le_add_right x c) (m4 h hk))) (z1 e)
theorem c8 (h:x + (l + 1)≤k) (hk:k≤d) (h2:y≤1) (e:Nat.ble d b=true):x + y≤b:=Nat.le_trans (Nat.add_le_add_left h2 x) (Nat.le_trans (Nat.add_le_add_left (Nat.le_add_left 1 l) x) (Nat.le_trans h (a3 hk e)))
theorem c9 (h:x + (l + 1)≤k) (hk:k≤d) (hz:z < a) (e:Nat.ble (a + d) b=true):z + x < b:=Nat.lt_of_lt_of_le (Nat.add_lt_add_of_lt_of_le hz (Nat.le_trans (Nat.le_add_right x _) (Nat.le_trans h hk))) (z1 e)
theorem c10 (h:x + c * 0≤z + c * k) (hk:k≤d) (hz:z < a) (e:Nat.ble (a + c * d) b=true):x < b:=Nat.lt_of_le_of_lt h (Nat.lt_of_lt_of_le (Nat.add_lt_add_of_lt_of_le hz (Nat.mul_le_mul_left c hk)) (z1 e))
end
end Mine.Internal.Fl
noncomputable section
namespace Mine.Internal
open PySem
theorem zN{h:Heap}:h.get? h.objs.size=none:=Heap.get?_none_of_le (Nat.le_refl _)
theorem zJ{α:Type _}{l m:List α}:(l++m)[l.length]?=m[0]?:=by rw[List.getElem?_append_right (Nat.le_refl _),Nat.sub_self]
theorem zR{n:Nat}:n≤n:=Nat.le_refl _
theorem zA{α:Type _}{p:α→Bool}{l:List α}(h:l.all p=true):∀x∈l,p x=true:=List.all_eq_true.mp h
theorem zG{α:Type _}{l:List α}{i:Nat}{a:α}(h:l[i]?=some a):∃h:i < l.length,l[i]=a:=List.getElem?_eq_some_iff.mp h
theorem zB{x y:Bool}(h:(x&&y)=true):x=true∧y=true:=Bool.and_eq_true_iff.mp h
theorem zS{α:Type _}{a:α}{l:List α}:a∈a::l:=List.mem_cons_self
theorem zM{α:Type _}{β:Type _}{b:β}{f:α→β}{l:List α}(h:b∈l.map f):∃a,a∈l∧f a=b:=List.mem_map.mp h
theorem zE{α:Type _}{l:List α}{i:Nat}{a:α}(h:l[i]?=some a):a∈l:=List.mem_of_getElem? h
theorem zW{α β M A E s}{m:Sem α}{f:α→Sem β}{Q}(h:wpAny M A m (fun a s=>wpAny M A (f a) Q E s) E s):wpAny M A (m>>=f) Q E s:=wpAny_bind h
theorem zP{α M A E s}{a:α}{Q:α→Shared→Prop}(h:Q a s):wpAny M A (pure a) Q E s:=wpAny_pure h
theorem zC{α:Type _}(y){a:α}{l:List α}(h:a∈l):a∈y::l:=List.mem_cons_of_mem y h
theorem zL{n m k:Nat}(p:n≤m)(h:m≤k):n≤k:=Nat.le_trans p h
theorem zD{p:Prop}[Decidable p](h:decide p=true):p:=of_decide_eq_true h
theorem zO{α:Type _}{β:Type _}{o:Option α}{f:α→Option β}{b:β}(h:o.bind f=some b):∃a,o=some a∧f a=some b:=Option.bind_eq_some_iff.mp h
inductive V where
 | none | bool (b:Bool) | int (i:Int) | str (s:Str)
 | tup (xs:List V) | lst (xs:List V) | dct (ks vs:List V)
 | ref (n:Nat) | fn (i j:Nat) | cl (i:Nat) | bi (id:String) | ty (n:String) | rng (n:Int)
mutual
def V.beq:V→V→Bool
 | .none,.none=>true
 | .bool a,.bool b=>a==b
 | .int a,.int b=>a==b
 | .str a,.str b=>a==b
 | .tup a,.tup b=>V.beqL a b
 | .lst a,.lst b=>V.beqL a b
 | .dct a c,.dct b d=>V.beqL a b&&V.beqL c d
 | .ref a,.ref b=>a==b
 | .fn a c,.fn b d=>a==b&&c==d
 | .cl a,.cl b=>a==b
 | .bi a,.bi b=>a==b
 | .ty a,.ty b=>a==b
 | .rng a,.rng b=>a==b
 | _,_=>false
def V.beqL:List V→List V→Bool
 | [],[]=>true
 | a::r,b::t=>V.beq a b&&V.beqL r t
 | _,_=>false
end
theorem z1 {a N:Nat}(h:1+a < N+1):a < N:=Nat.lt_of_succ_lt_succ (show a+1 < N+1 from Nat.add_comm 1 a▸h)
theorem z2 {a b N:Nat}(h:1+a+b < N+1):a < N∧b < N:=⟨z1 (Nat.lt_of_le_of_lt (Nat.le_add_right _ b) h),z1 (Nat.lt_of_le_of_lt (Nat.add_le_add_right (Nat.le_add_right 1 a) b) h)⟩
theorem z3 {a b c N:Nat}(h:1+a+b+c < N+1):a < N∧b < N∧c < N:=have q:=z2 (Nat.lt_of_le_of_lt (Nat.le_add_right _ c) h);⟨q.1,q.2,(z2 (a:=a+b) (Nat.add_assoc 1 a b▸h)).2⟩
theorem z4 {a b c d N:Nat}(h:1+a+b+c+d < N+1):a < N∧b < N∧c < N∧d < N:=have q:=z3 (Nat.lt_of_le_of_lt (Nat.le_add_right _ d) h);⟨q.1,q.2.1,q.2.2,(z3 (a:=a+b) (Nat.add_assoc 1 a b▸h)).2.2⟩
theorem zb {a b N:Nat}(h:1+a+b < N):a < N∧b < N:=⟨Nat.lt_of_le_of_lt (zL (Nat.le_add_left a 1) (Nat.le_add_right _ b)) h,Nat.lt_of_le_of_lt (Nat.le_add_left b _) h⟩
theorem za {a b c N:Nat}(h:1+a+b+c < N):a < N:=(zb (Nat.lt_of_le_of_lt (Nat.le_add_right _ c) h)).1
theorem oN {P:Prop}(h:false=true):P:=Bool.noConfusion h
mutual
theorem V.beq_eq:∀a b:V,V.beq a b=true→a=b
 | .none,b=>by cases b<;>first | exact λ_=>rfl | exact oN
 | .bool a,b=>by cases b<;>first | exact oN | exact λh=>congrArg V.bool (beq_iff_eq.mp h)
 | .int a,b=>by cases b<;>first | exact oN | exact λh=>congrArg V.int (beq_iff_eq.mp h)
 | .str a,b=>by cases b<;>first | exact oN | exact λh=>congrArg V.str (beq_iff_eq.mp h)
 | .tup a,b=>by cases b<;>first | exact oN | exact λh=>congrArg V.tup (V.beqL_eq a _ h)
 | .lst a,b=>by cases b<;>first | exact oN | exact λh=>congrArg V.lst (V.beqL_eq a _ h)
 | .dct a c,b=>by
  cases b<;>first | exact oN | exact λh=>have k:=zB h;by rw[V.beqL_eq a _ k.1,V.beqL_eq c _ k.2]
 | .ref a,b=>by cases b<;>first | exact oN | exact λh=>congrArg V.ref (beq_iff_eq.mp h)
 | .fn a c,b=>by cases b<;>first | exact oN | exact λh=>have k:=zB h;by rw[beq_iff_eq.mp k.1,beq_iff_eq.mp k.2]
 | .cl a,b=>by cases b<;>first | exact oN | exact λh=>congrArg V.cl (beq_iff_eq.mp h)
 | .bi a,b=>by cases b<;>first | exact oN | exact λh=>congrArg V.bi (beq_iff_eq.mp h)
 | .ty a,b=>by cases b<;>first | exact oN | exact λh=>congrArg V.ty (beq_iff_eq.mp h)
 | .rng a,b=>by cases b<;>first | exact oN | exact λh=>congrArg V.rng (beq_iff_eq.mp h)
theorem V.beqL_eq:∀a b:List V,V.beqL a b=true→a=b
 | [],b=>by cases b<;>first | exact λ_=>rfl | exact oN
 | x::r,b=>by
  cases b<;>first | exact oN | exact λh=>have k:=zB h;by rw[V.beq_eq x _ k.1,V.beqL_eq r _ k.2]
end
mutual
theorem V.beq_self:∀a:V,V.beq a a=true
 | .none=>rfl
 | .bool a=>beq_self_eq_true a
 | .int a=>beq_self_eq_true a
 | .str a=>beq_self_eq_true a
 | .ref a=>beq_self_eq_true a
 | .fn a b=>Bool.and_eq_true_iff.mpr ⟨beq_self_eq_true a,beq_self_eq_true b⟩
 | .cl a=>beq_self_eq_true a
 | .bi a=>beq_self_eq_true a
 | .ty a=>beq_self_eq_true a
 | .rng a=>beq_self_eq_true a
 | .tup a=>V.beqL_self a
 | .lst a=>V.beqL_self a
 | .dct a c=>Bool.and_eq_true_iff.mpr ⟨V.beqL_self a,V.beqL_self c⟩
theorem V.beqL_self:∀a:List V,V.beqL a a=true
 | []=>rfl
 | x::r=>Bool.and_eq_true_iff.mpr ⟨V.beq_self x,V.beqL_self r⟩
end
instance:DecidableEq V:=λa b=>
 if h:V.beq a b=true then .isTrue (V.beq_eq a b h)else .isFalse λe=>h (e▸V.beq_self a)
inductive O where
 | list (xs:List V) | dict (es:List (V×V)) | inst (c:Nat) (fs:List (Str×V)) | gone
abbrev H:=List O
def M (α:Type):=H→Option (α×H)
abbrev CT:=V→List V→M V
section
variable {α β:Type}
def ret (a:α):M α:=λY=>some (a,Y)
def aB (m:M α)(f:α→M β):M β:=λY=>(m Y).bind λp=>f p.1 p.2
def fail:M α:=λ_=>Option.none
def bL (o:Option α):M α:=λY=>o.map λa=>(a,Y)
end
inductive Fl where
 | next | ret (v:V)
abbrev LE:=Str→Option V
def upd (ρ:LE)(x:Str)(v:V):LE:=λy=>if y=x then some v else ρ y
mutual
def dO:Nat→V→Bool
 | _,.none=>true
 | _,.bool _=>true
 | _,.int _=>true
 | _,.str s=>PyData.strOk s
 | n+1,.tup xs=>fM n xs
 | n+1,.lst xs=>fM n xs
 | _,_=>false
def fM:Nat→List V→Bool
 | _,[]=>true
 | n,x::r=>dO n x&&fM n r
end
mutual
def pd:V→PyData
 | .none=>.none
 | .bool b=>.bool b
 | .int i=>.int i
 | .str s=>.str s
 | .tup xs=>.tuple (pdL xs)
 | .lst xs=>.list (pdL xs)
 | _=>.none
def pdL:List V→List PyData
 | []=>[]
 | x::r=>pd x::pdL r
end
def eqv (a b:V):Option Bool:=if dO 9 a&&dO 9 b then some (PyData.eqv (pd a) (pd b))else Option.none
def inL (x:V)(ys:List V):Option Bool:=if dO 9 x&&fM 9 ys then some (ys.any λy=>PyData.eqv (pd y) (pd x))else Option.none
mutual
def pK:Nat→V→Bool
 | _,.int _=>true
 | _,.str s=>PyData.strOk s
 | 0,.tup _=>false
 | n+1,.tup xs=>wP n xs
 | _,_=>false
def wP:Nat→List V→Bool
 | _,[]=>true
 | n,x::r=>pK n x&&wP n r
end
def kI:V→Bool | .int _=>true | _=>false
def kS:V→Bool | .str _=>true | _=>false
def kT:V→Bool | .tup xs=>pK 5 (.tup xs) | _=>false
def bM (k:V)(ks:List V):Bool:=(kI k&&ks.all kI)||(kS k&&ks.all kS)||(kT k&&ks.all kT)
def dM (k:V):List (V×V)→Option V
 | []=>Option.none
 | e::r=>if e.1=k then some e.2 else dM k r
theorem aN5 {k:V}:dM k []=Option.none:=rfl
theorem f9 {k:V}{e:V×V}{r:List (V×V)}:dM k (e::r)=if e.1=k then some e.2 else dM k r:=rfl
def put (k v:V):List (V×V)→List (V×V)
 | []=>[(k,v)]
 | e::r=>if e.1=k then(e.1,v)::r else e::put k v r
theorem qM {k v:V}{e:V×V}{r:List (V×V)}:put k v (e::r)=if e.1=k then(e.1,v)::r else e::put k v r:=rfl
def drop (k:V):List (V×V)→List (V×V)
 | []=>[]
 | e::r=>if e.1=k then r else e::drop k r
theorem by1 {k:V}:drop k []=[]:=rfl
theorem oJ {k:V}{e:V×V}{r:List (V×V)}:drop k (e::r)=if e.1=k then r else e::drop k r:=rfl
def jW (x:Str):List (Str×V)→Option V
 | []=>Option.none
 | e::r=>if e.1=x then some e.2 else jW x r
def mZ (x:Str)(v:V):List (Str×V)→List (Str×V)
 | []=>[(x,v)]
 | e::r=>if e.1=x then(e.1,v)::r else e::mZ x v r
def az4 (i:Int)(n:Nat):Option Nat:=
 if 0≤i then(if i < n then some i.toNat else Option.none)else(if 0≤i+n then some (i+n).toNat else Option.none)
def asL:O→Option (List V) | .list xs=>some xs | _=>Option.none
def mV:O→Option (List (V×V)) | .dict es=>some es | _=>Option.none
def asI:O→Option (Nat×List (Str×V)) | .inst c fs=>some (c,fs) | _=>Option.none
def yY (n:Nat):M O:=λY=>(Y[n]?).map λo=>(o,Y)
def rdL (n:Nat):M (List V):=aB (yY n) λo=>bL (asL o)
def rdD (n:Nat):M (List (V×V)):=aB (yY n) λo=>bL (mV o)
def rdI (n:Nat):M (Nat×List (Str×V)):=aB (yY n) λo=>bL (asI o)
def xJ (n:Nat)(o:O):M Unit:=λY=>some ((),Y.set n o)
def bN (o:O):M V:=λY=>some (.ref Y.length,Y++[o])
def dD (b:Bool):M Unit:=if b then ret ()else fail
def aS:V→M Bool
 | .bool b=>ret b
 | .int i=>ret (decide (i≠0))
 | .lst xs=>ret (!xs.isEmpty)
 | .ref n=>aB (rdL n) λxs=>ret (!xs.isEmpty)
 | _=>fail
def bV4:V→V→M V
 | .int a,.int b=>ret (.int (a+b))
 | .tup a,.tup b=>if a.length+b.length≤1000 then ret (.tup (a++b))else fail
 | _,_=>fail
def aO7 (f:Int→Int→M V):V→V→M V
 | .int a,.int b=>f a b
 | _,_=>fail
def i8:Operator→V→V→M V
 | .Add,x,y=>bV4 x y
 | .Sub,x,y=>aO7 (λa b=>ret (.int (a - b))) x y
 | .Mult,x,y=>aO7 (λa b=>if a.natAbs < 1000∧b.natAbs < 1000 then ret (.int (a * b))else fail) x y
 | .Mod,x,y=>aO7 (λa b=>if 0 < b then ret (.int (a % b))else fail) x y
 | .FloorDiv,x,y=>aO7 (λa b=>if 0 < b∧b < 1000 then ret (.int (a / b))else fail) x y
 | _,_,_=>fail
def inO (a:V):O→M Bool
 | .list xs=>bL (inL a xs)
 | .dict es=>aB (dD (bM a (es.map (·.1)))) λ_=>ret (dM a es).isSome
 | _=>fail
def inV (a:V):V→M Bool
 | .tup xs=>bL (inL a xs)
 | .lst xs=>bL (inL a xs)
 | .ref n=>aB (yY n) λo=>inO a o
 | _=>fail
def isNone:V→Bool | .none=>true | _=>false
def oC:V→Bool | .bi _=>false | _=>true
def pM (f:Int→Int→Bool):V→V→M Bool
 | .int a,.int b=>ret (f a b)
 | _,_=>fail
def aK:CmpOp→V→V→M Bool
 | .Eq,a,b=>bL (eqv a b)
 | .NotEq,a,b=>aB (bL (eqv a b)) λc=>ret !c
 | .Lt,a,b=>pM (λa b=>decide (a < b)) a b
 | .LtE,a,b=>pM (λa b=>decide (a≤b)) a b
 | .Gt,a,b=>pM (λa b=>decide (a > b)) a b
 | .GtE,a,b=>pM (λa b=>decide (a ≥ b)) a b
 | .Is,a,b=>aB (dD (isNone b&&oC a)) λ_=>ret (isNone a)
 | .IsNot,a,b=>aB (dD (isNone b&&oC a)) λ_=>ret (!isNone a)
 | .In,a,b=>inV a b
 | .NotIn,a,b=>aB (inV a b) λc=>ret !c
def oO:List Str:=(["rows","index","decls","bounds","defaults","names","origins","renamed","shaping","putting",
 "did","kind","name","params","body","bases","static","extends_class","abstract","members","variances","busy","at","file","nid",
 "tab","deep","most_rounds","most_deep","lib","host","mode","rules","assumed","known","trail","road","looks","notes","telling","twin","missing"]).map Str.ofString
def w5:List Nat:=[7,58,59,90,110]
def zH {α:Type}(v:V)(k:Nat→M α):M α:=match v with
 | .ref n=>k n
 | _=>fail
def aR (x:Str)(v:V):M V:=zH v λn=>aB (dD (oO.contains x)) λ_=>aB (rdI n) λp=>aB (bL (jW x p.2)) λv=>aB (dD (oC v)) λ_=>ret v
def fL (xs:List V)(i:Int):Option V:=(az4 i xs.length).bind λk=>xs[k]?
def cA:V→Option Int | .int i=>some i | _=>Option.none
def aO5 (k:V):O→M V
 | .list xs=>bL ((cA k).bind (fL xs))
 | .dict es=>aB (dD (bM k (es.map (·.1)))) λ_=>bL (dM k es)
 | _=>fail
def aJ (k:V):V→M V
 | .tup xs=>bL ((cA k).bind (fL xs))
 | .lst xs=>bL ((cA k).bind (fL xs))
 | .dct ks vs=>aB (dD (bM k ks&&!kT k)) λ_=>bL (dM k (ks.zip vs))
 | .ref n=>aB (yY n) λo=>aO5 k o
 | _=>fail
def iA (hi:Int):V→M V
 | .tup xs=>aB (dD (decide (hi=-1)&&!xs.isEmpty)) λ_=>ret (.tup xs.dropLast)
 | .lst xs=>aB (dD (decide (0≤hi))) λ_=>ret (.lst (xs.take hi.toNat))
 | _=>fail
def fY (lo:Int)(v:V):M V:=zH v λn=>aB (rdL n) λxs=>aB (dD (decide (0≤lo))) λ_=>ret (.lst (xs.drop lo.toNat))
def b7 (k v x:V):M Unit:=zH x λn=>aB (rdD n) λes=>aB (dD (bM k (es.map (·.1))&&decide (es.length < 100000))) λ_=>xJ n (.dict (put k v es))
def bH (x:Str)(v y:V):M Unit:=zH y λn=>aB (dD (oO.contains x)) λ_=>aB (rdI n) λp=>aB (dD (decide (p.2.length < 100))) λ_=>xJ n (.inst p.1 (mZ x v p.2))
def wV (n:Nat):O→M V
 | .list xs=>aB (xJ n .gone) λ_=>ret (.lst xs)
 | .gone=>fail
 | _=>ret (.ref n)
def aA:V→M V
 | .ref n=>aB (yY n) λo=>wV n o
 | v=>ret v
def nH:List V→Option (List Int)
 | []=>some []
 | x::r=>(cA x).bind λi=>(nH r).map (i::·)
def aq2:V→Option Bool | .bool b=>some b | _=>Option.none
def iZ:List V→Option (List Bool)
 | []=>some []
 | x::r=>(aq2 x).bind λi=>(iZ r).map (i::·)
def ax3 (x:Int):List Int→List Int
 | []=>[x]
 | y::r=>if x≤y then x::y::r else y::ax3 x r
theorem bl2 {x y:Int}{r:List Int}:ax3 x (y::r)=if x≤y then x::y::r else y::ax3 x r:=rfl
def nL:List Int→List Int
 | []=>[]
 | x::r=>ax3 x (nL r)
def c8:V→M (List V)
 | .tup xs=>ret xs
 | .lst xs=>ret xs
 | .ref n=>rdL n
 | _=>fail
def ac5 (v:V):M V:=zH v λn=>aB (rdD n) λes=>aB (dD (decide (es.length < 60))) λ_=>aB (bL (nH (es.map (·.1)))) λks=>ret (.lst ((nL ks).map .int))
def u6:V→M (List Bool)
 | .lst xs=>bL (iZ xs)
 | _=>fail
def aW9:V→V→M V
 | .str _,.ty t=>aB (dD (t == "str")) λ_=>ret (.bool true)
 | .int _,.ty t=>aB (dD (t == "str")) λ_=>ret (.bool false)
 | _,_=>fail
def one (f:V→M V):List V→M V
 | [x]=>f x
 | _=>fail
def two (f:V→V→M V):List V→M V
 | [x,y]=>f x y
 | _=>fail
def jG (id:String)(vs:List V):M V:=
 if id = "len" then one (λx=>aB (c8 x) λxs=>ret (.int xs.length)) vs
 else if id = "sorted" then one ac5 vs
 else if id = "all" then one (λx=>aB (u6 x) λbs=>ret (.bool (bs.all id_))) vs
 else if id = "any" then one (λx=>aB (u6 x) λbs=>ret (.bool (bs.any id_))) vs
 else if id = "isinstance" then two aW9 vs
 else fail
where id_ (b:Bool):Bool:=b
def aU6:V→M V
 | .int n=>aB (dD (decide (0≤n)&&decide (n < 1000))) λ_=>ret (.rng n)
 | _=>fail
def bp7:V→M V
 | .lst xs=>ret (.tup xs)
 | _=>fail
def tyV (n:String)(vs:List V):M V:=
 if n = "range" then one aU6 vs else if n = "tuple" then one bp7 vs else fail
inductive MK where
 | py (c j:Nat) | li | di
def S (s:String):Str:=Str.ofString s
def rJ (c:Nat)(x:Str):Option Nat:=
 if c=7 then(if x=S "put" then some 2 else Option.none)
 else if c=58 then(if x=S "put" then some 3 else Option.none)
 else if c=90 then(if x=S "force" then some 2 else Option.none)
 else if c=110 then(if x=S "ask" then some 2 else if x=S "note" then some 3 else if x=S "mark" then some 5 else if x=S "back" then some 6 else Option.none)
 else Option.none
def aA1 (x:Str):O→M MK
 | .inst c fs=>aB (dD (jW x fs).isNone) λ_=>bL ((rJ c x).map (.py c))
 | .list _=>aB (dD (decide (x=S "append"∨x=S "extend"∨x=S "reverse"∨x=S "pop"))) λ_=>ret .li
 | .dict _=>aB (dD (decide (x=S "get"))) λ_=>ret .di
 | _=>fail
def bF (x:Str):V→M MK
 | .ref n=>aB (yY n) λo=>aA1 x o
 | .dct _ _=>aB (dD (decide (x=S "get"))) λ_=>ret .di
 | _=>fail
def yL:V→M (List V)
 | .tup xs=>ret xs
 | .lst xs=>ret xs
 | _=>fail
def bd1 (x:Str)(n:Nat)(v:V):M V:=aB (rdL n) λxs=>aB (dD (decide (xs.length < 100000))) λ_=>
 if x=S "append" then aB (xJ n (.list (xs++[v]))) λ_=>ret .none
 else if x=S "extend" then aB (yL v) λys=>aB (dD (decide (ys.length < 1000))) λ_=>aB (xJ n (.list (xs++ys))) λ_=>ret .none
 else fail
def aA2 (x:Str)(n:Nat):M V:=aB (rdL n) λxs=>
 if x=S "reverse" then aB (xJ n (.list xs.reverse)) λ_=>ret .none
 else if x=S "pop" then aB (bL xs.getLast?) λv=>aB (xJ n (.list xs.dropLast)) λ_=>ret v
 else fail
def bd0 (x:Str):CT
 | .ref n,[v]=>bd1 x n v
 | .ref n,[]=>aA2 x n
 | _,_=>fail
def be5:CT
 | .dct ks vs,[k,d]=>aB (dD (bM k ks&&!kT k)) λ_=>ret ((dM k (ks.zip vs)).getD d)
 | .ref n,[k,d]=>aB (rdD n) λes=>aB (dD (bM k (es.map (·.1)))) λ_=>ret ((dM k es).getD d)
 | _,_=>fail
def aZ0:Const→M V
 | .none=>ret .none
 | .bool b=>ret (.bool b)
 | .int i=>ret (.int i)
 | .str s=>ret (.str s)
 | _=>fail
def G:Str→Option V:=λx=>(gtab.find? λe=>S e.1=x).map (·.2)
where gtab:List (String×V):=[
 ("U_ANY",.int 1),("U_ENUM",.int 10),("U_VAR",.int 15),("Notes",.cl 7),
 ("Y_KEY",.int 1),("Y_BOOL",.int 2),("Y_STR",.int 3),("Y_NUM",.int 4),("Y_ENUM",.int 5),("Y_UNION",.int 6),("Y_INTER",.int 7),
 ("Y_TUPLE",.int 12),("Y_TPL",.int 18),
 ("ANY",.int 0),("UNKNOWN",.int 1),("NEVER",.int 2),("VOID",.int 3),("UNDEF",.int 4),("NULLT",.int 5),("STRING",.int 6),("NUMBER",.int 7),
 ("FALSE_T",.int 8),("TRUE_T",.int 9),("OBJECTT",.int 10),("EMPTY",.int 11),("ERR",.int 13),("FRESH_F",.int 14),("FRESH_T",.int 15),("D_ENUM",.int 5),
 ("FAM_OTHER",.int 0),("FAM_STR",.int 1),("FAM_NUM",.int 2),("FAM_BOOL",.int 3),("FAM_NULL",.int 4),("FAM_UNDEF",.int 5),("FAM_VOID",.int 6),("FAM_OBJ",.int 7),
 ("MAX_UNION",.int 400),
 ("FIRST_ROWS",.tup [.tup [.int 1,.str (S "any")],.tup [.int 1,.str (S "unknown")],.tup [.int 1,.str (S "never")],.tup [.int 1,.str (S "void")],
  .tup [.int 1,.str (S "undefined")],.tup [.int 1,.str (S "null")],.tup [.int 1,.str (S "string")],.tup [.int 1,.str (S "number")],
  .tup [.int 2,.int 0,.int 0],.tup [.int 2,.int 1,.int 0],.tup [.int 1,.str (S "object")],.tup [.int 8,.tup [],.tup [],.tup [],.tup [],.tup [],.int 0],
  .tup [.int 6,.tup [.int 8,.int 9]],.tup [.int 1,.str (S "error")],.tup [.int 2,.int 0,.int 1],.tup [.int 2,.int 1,.int 1]]),
 ("LITERAL_ROWS",.tup [.int 2,.int 3,.int 4,.int 5]),("MARKED_ROWS",.tup [.int 2,.int 3,.int 4,.int 5,.int 8]),
 ("OBJECT_ROWS",.tup [.int 8,.int 9,.int 11,.int 12,.int 13]),
 ("KEY_FAMILIES",.dct [.int 3,.int 4,.int 5,.int 6,.int 7,.int 10] [.int 6,.int 5,.int 4,.int 1,.int 2,.int 7]),
 ("TypeTable",.cl 58),("Decl",.cl 59),("kind_of",.fn 60 0),("str_type",.fn 61 0),("num_type",.fn 62 0),("bool_type",.fn 63 0),("member_type",.fn 64 0),
 ("new_decl",.fn 65 0),("parts_of",.fn 66 0),("whole_of_row",.fn 67 0),("regular_twin",.fn 68 0),("join_bools",.fn 69 0),("stays_beside",.fn 70 0),
 ("top_of",.fn 71 0),("union",.fn 72 0),("is_literal",.fn 73 0),("is_fresh",.fn 74 0),("regular_one",.fn 75 0),("regular",.fn 76 0),("family",.fn 79 0),
 ("plain_part",.fn 81 0),("ccore_plain_fits",.fn 82 0),("ccore_plain_meets",.fn 83 0),("value_holds",.fn 85 0),("units_fit",.fn 86 0),
 ("MOST_ROUNDS",.int 200),("MOST_SHAPES",.int 40),("Thin",.cl 90),
 ("R_ASSIGN",.int 1),("R_COMPARE",.int 2),("R_IDENT",.int 3),("R_SUBTYPE",.int 4),
 ("VALUE_ROWS",.tup [.int 1,.int 2,.int 3,.int 4,.int 5]),("SHAPED_ROWS",.tup [.int 8,.int 9]),
 ("DEFERRED_ROWS",.tup [.int 10,.int 14,.int 15,.int 16,.int 17,.int 18,.int 19]),
 ("OPEN_ROWS",.tup [.int 6,.int 7,.int 10,.int 14,.int 15,.int 16,.int 17,.int 18,.int 19]),
 ("MAX_OPEN",.int 60),("MOST_LOOKS",.int 20000),("Rel",.cl 110),
 ("cut_back",.fn 114 0),("settled",.fn 115 0),("ask_kinds",.fn 116 0),("relbase_kept",.fn 117 0),("close_trail",.fn 118 0),("tells",.fn 119 0),
 ("simple_related",.fn 120 0),("tops_related",.fn 121 0),("unknown_told",.fn 122 0),("is_numeric_enum",.fn 123 0),("values_related",.fn 124 0),
 ("number_to_enum",.fn 125 0),("structured",.fn 126 0),("from_union",.fn 128 0),("some_part",.fn 129 0),("lay_again",.fn 130 0),("to_union",.fn 131 0),
 ("plain_value",.fn 135 0),("plain_holds",.fn 136 0),
 ("_law_take",.fn 138 0),("_law_pick",.fn 139 0),("_law_kind",.fn 140 0),("_law_left",.fn 141 0),("_law_term",.fn 142 0),("_law_draw",.fn 143 0),
 ("_law_plain",.fn 144 0),("_law_values",.fn 145 0),("_law_within",.fn 146 0),("_law_assign",.fn 147 0),("_law_goes",.fn 148 0),("_law_meets",.fn 149 0),
 ("_law_holds",.fn 150 0),("_law_asked",.fn 151 0),("_law_pair",.fn 152 0),("_law_parts",.fn 153 0),("law",.fn 154 0),
 ("len",.bi "len"),("sorted",.bi "sorted"),("all",.bi "all"),("any",.bi "any"),("isinstance",.bi "isinstance"),("range",.ty "range"),("tuple",.ty "tuple"),("str",.ty "str")]
def aG2 (sc:Scope):Bool:=(sc.kind==.function)&&(sc.names.all λp=>p.1 != S "__debug__"&&p.1 != S "__classdict__")&&!sc.isCoroutine&&!sc.isGenerator
def fG (sc:Scope)(x:Str):Bool:=match sc.names.lookup x with
 | some .local=>true
 | some .cell=>true
 | _=>false
def okC (sc csc:Scope):Bool:=aG2 csc&&csc.names.all λp=>p.2 != .cell&&(p.2 != .local||csc.names.lookup p.1==some .local)&&(p.2 != .free||sc.names.lookup p.1==some .cell)
def pI (csc:Scope)(ρ:LE):LE:=λy=>if fG csc y then Option.none else ρ y
def bc9 (sc:Scope)(ρ:LE)(x:Str):M V:=match sc.names.lookup x with
 | some .local=>bL (ρ x)
 | some .cell=>bL (ρ x)
 | some .free=>bL (ρ x)
 | some .globalImplicit=>bL (G x)
 | _=>fail
def iQ:List Expr→Option (List Str)
 | []=>some []
 | .Name x _::r=>(iQ r).map (x::·)
 | _=>Option.none
def cZ:List Str→List V→LE→Option LE
 | [],[],ρ=>some ρ
 | x::xs,v::vs,ρ=>cZ xs vs (upd ρ x v)
 | _,_,_=>Option.none
def kP (sc:Scope):Expr→V→LE→Option LE
 | .Name x _,v,ρ=>if fG sc x then some (upd ρ x v)else Option.none
 | .Tuple es _ _,.tup vs,ρ=>(iQ es).bind λxs=>if xs.all (fG sc)then cZ xs vs ρ else Option.none
 | _,_,_=>Option.none
def bw3:V→Bool
 | .fn _ _=>true
 | .cl _=>true
 | _=>false
def jY (call:CT)(i:Nat)(vs:List V):M V:=
 aB (dD (w5.contains i)) λ_=>aB (bN (.inst i [])) λr=>aB (call (.fn i 1) (r::vs)) λv=>aB (dD (isNone v)) λ_=>ret r
def aR3 (call:CT):CT
 | .fn i j,vs=>call (.fn i j) vs
 | .cl i,vs=>jY call i vs
 | .bi id,vs=>jG id vs
 | .ty n,vs=>tyV n vs
 | _,_=>fail
def bD (call:CT)(k:MK)(x:Str)(ov:V)(vs:List V):M V:=match k with
 | .py c j=>call (.fn c j) (ov::vs)
 | .li=>bd0 x ov vs
 | .di=>be5 ov vs
def cG:MK→Bool
 | .py _ _=>true
 | _=>false
def pP:Expr→Bool
 | .Call (.Name id _) [] [] _=>id != S "super"
 | _=>true
def yQ (ap p:Pos)(args:List Expr):Bool:=(ap.endLine==p.line)&&decide (args.length < 29)
def j0 (fz:Bool):List (M V)→M (List V)
 | []=>ret []
 | m::r=>aB m λv=>aB (if fz then aA v else ret v) λv=>aB (j0 fz r) λvs=>ret (v::vs)
def aq1 (op:BoolOp):List (M V)→M V
 | []=>fail
 | [m]=>m
 | m::r=>aB m λv=>aB (aS v) λt=>if(op=.And)=(t=true)then aq1 op r else ret v
def iX (a:V):List CmpOp→List (M V)→M Bool
 | [op],[m]=>aB m λb=>aK op a b
 | op::op'::ops,m::m'::r=>aB m λb=>aB (aK op a b) λc=>if c then iX b (op'::ops) (m'::r)else ret false
 | _,_=>fail
def aP:V→Option Nat | .ref n=>some n | _=>Option.none
def bU:V→M (List V)
 | .rng n=>ret ((List.range n.toNat).map λ(i:Nat)=>V.int i)
 | v=>c8 v
def still (xs:List V):Option Nat→M Unit
 | Option.none=>ret ()
 | some n=>aB (rdL n) λys=>dD (decide (xs=ys))
def wZ (y:Option V)(ys:List V):List V:=match y with | some v=>v::ys | Option.none=>ys
def bK (w:M Unit)(f:V→M (Option V)):List V→M (List V)
 | []=>aB w λ_=>ret []
 | x::r=>aB w λ_=>aB (f x) λy=>aB (bK w f r) λys=>ret (wZ y ys)
def am0 (k:LE→M (Fl×LE))(p:Fl×LE):M (Fl×LE):=match p.1 with
 | .next=>k p.2
 | .ret v=>ret (.ret v,p.2)
def ac0 (w:M Unit)(f:V→LE→M (Fl×LE)):List V→LE→M (Fl×LE)
 | [],ρ=>aB w λ_=>ret (.next,ρ)
 | x::r,ρ=>aB w λ_=>aB (f x ρ) (am0 (ac0 w f r))
def qF (c:LE→M Bool)(f:LE→M (Fl×LE)):Nat→LE→M (Fl×LE)
 | 0,_=>fail
 | n+1,ρ=>aB (c ρ) λb=>if b then aB (f ρ) (am0 (qF c f n))else ret (.next,ρ)
def fU:List (Option (M V))→List (M V)→M (List (V×V))
 | [],[]=>ret []
 | some k::ks,v::vs=>aB k λa=>aB v λb=>aB (fU ks vs) λr=>ret ((a,b)::r)
 | _,_=>fail
section
variable (call:CT)
mutual
def ev:Expr→Scope→LE→M V
 | .Constant c _ _,_,_=>aZ0 c
 | .Name x _,sc,ρ=>bc9 sc ρ x
 | .BoolOp op vs _,sc,ρ=>aq1 op (kG vs sc ρ)
 | .BinOp l op r _,sc,ρ=>aB (ev l sc ρ) λa=>aB (ev r sc ρ) λb=>i8 op a b
 | .UnaryOp .Not x _,sc,ρ=>aB (ev x sc ρ) λv=>aB (aS v) λb=>ret (.bool !b)
 | .UnaryOp .USub x _,sc,ρ=>aB (ev x sc ρ) λv=>aB (bL (cA v)) λi=>ret (.int (-i))
 | .IfExp t b o _,sc,ρ=>aB (zV t sc ρ (ev t sc ρ)) λc=>if c then ev b sc ρ else ev o sc ρ
 | .Dict [] [] _,_,_=>bN (.dict [])
 | .List es _,sc,ρ=>if es.length≤1000 then aB (j0 true (kG es sc ρ)) λvs=>ret (.lst vs)else fail
 | .Tuple es _ _,sc,ρ=>if es.length≤1000 then aB (j0 true (kG es sc ρ)) λvs=>ret (.tup vs)else fail
 | .Dict ks vs _,sc,ρ=>aB (fU (rQ ks sc ρ) (kG vs sc ρ)) λkv=>
   if(kv.map (·.1)).Nodup∧kv.all (λe=>kS e.1)=true∧kv.length≤15 then ret (.dct (kv.map (·.1)) (kv.map (·.2)))else fail
 | .ListComp elt [⟨tgt,iter,[],0⟩] csc _,sc,ρ=>
   aB (dD (okC sc csc)) λ_=>aB (ev iter sc ρ) λit=>aB (c8 it) λxs=>aB (bK (still xs (aP it)) (λx=>aB (bL (kP csc tgt x (pI csc ρ))) λρ'=>aB (ev elt csc ρ') λy=>ret (some y)) xs) λys=>
    ret (.lst ys)
 | .ListComp elt [⟨tgt,iter,[c],0⟩] csc _,sc,ρ=>
   aB (dD (okC sc csc)) λ_=>aB (ev iter sc ρ) λit=>aB (c8 it) λxs=>aB (bK (still xs (aP it)) (λx=>aB (bL (kP csc tgt x (pI csc ρ))) λρ'=>
    aB (zV c csc ρ' (ev c csc ρ')) λb=>if b then aB (ev elt csc ρ') λy=>ret (some y)else ret Option.none) xs) λys=>ret (.lst ys)
 | .Compare l ops rs _,sc,ρ=>aB (dD (!lastMarks ops rs)) λ_=>aB (ev l sc ρ) λa=>aB (iX a ops (kG rs sc ρ)) λb=>ret (.bool b)
 | .Call (.Attribute o x ap) args [] p,sc,ρ=>aB (dD (pP o&&yQ ap p args)) λ_=>aB (ev o sc ρ) λov=>aB (bF x ov) λk=>aB (j0 (cG k) (kG args sc ρ)) λvs=>bD call k x ov vs
 | .Call (.Name f p) args [] _,sc,ρ=>aB (ev (.Name f p) sc ρ) λfv=>aB (j0 (bw3 fv) (kG args sc ρ)) λvs=>aR3 call fv vs
 | .Attribute o x _,sc,ρ=>aB (dD (pP o)) λ_=>aB (ev o sc ρ) λov=>aR x ov
 | .Subscript o (.Slice (some lo) Option.none Option.none _) _,sc,ρ=>aB (ev o sc ρ) λov=>aB (ev lo sc ρ) λl=>aB (bL (cA l)) λl=>fY l ov
 | .Subscript o (.Slice Option.none (some hi) Option.none _) _,sc,ρ=>aB (ev o sc ρ) λov=>aB (ev hi sc ρ) λh=>aB (bL (cA h)) λh=>iA h ov
 | .Subscript o (.Name x p) _,sc,ρ=>aB (ev o sc ρ) λov=>aB (ev (.Name x p) sc ρ) λi=>aJ i ov
 | .Subscript o (.Constant c k p) _,sc,ρ=>aB (ev o sc ρ) λov=>aB (ev (.Constant c k p) sc ρ) λi=>aJ i ov
 | .Subscript o (.UnaryOp op x p) _,sc,ρ=>aB (ev o sc ρ) λov=>aB (ev (.UnaryOp op x p) sc ρ) λi=>aJ i ov
 | .Subscript o (.BinOp l op r p) _,sc,ρ=>aB (ev o sc ρ) λov=>aB (ev (.BinOp l op r p) sc ρ) λi=>aJ i ov
 | .Subscript o (.Subscript a i p) _,sc,ρ=>aB (ev o sc ρ) λov=>aB (ev (.Subscript a i p) sc ρ) λi=>aJ i ov
 | _,_,_=>fail
def zV:Expr→Scope→LE→M V→M Bool
 | .UnaryOp .Not x _,sc,ρ,_=>aB (zV x sc ρ (ev x sc ρ)) λb=>ret !b
 | .BoolOp op vs _,sc,ρ,_=>bx8 op vs sc ρ
 | .IfExp t b o _,sc,ρ,_=>aB (zV t sc ρ (ev t sc ρ)) λc=>if c then zV b sc ρ (ev b sc ρ)else zV o sc ρ (ev o sc ρ)
 | .Compare l ops rs _,sc,ρ,_=>aB (dD (!lastMarks ops rs)) λ_=>aB (ev l sc ρ) λa=>iX a ops (kG rs sc ρ)
 | _,_,_,whole=>aB whole aS
def bx8:BoolOp→List Expr→Scope→LE→M Bool
 | op,[],_,_=>ret (decide (op=.And))
 | op,e::r,sc,ρ=>aB (zV e sc ρ (ev e sc ρ)) λt=>if(op=.And)=(t=true)then bx8 op r sc ρ else ret t
def kG:List Expr→Scope→LE→List (M V)
 | [],_,_=>[]
 | e::r,sc,ρ=>ev e sc ρ::kG r sc ρ
def evO:Option Expr→Scope→LE→Option (M V)
 | Option.none,_,_=>Option.none
 | some e,sc,ρ=>some (ev e sc ρ)
def rQ:List (Option Expr)→Scope→LE→List (Option (M V))
 | [],_,_=>[]
 | e::r,sc,ρ=>evO e sc ρ::rQ r sc ρ
end
end
def iW (k x:V):M Unit:=zH x λn=>aB (rdD n) λes=>aB (dD (bM k (es.map (·.1))&&(dM k es).isSome)) λ_=>xJ n (.dict (drop k es))
def g9 (lo:Int)(x:V):M Unit:=zH x λn=>aB (rdL n) λxs=>aB (dD (decide (0≤lo)&&decide (lo≤xs.length))) λ_=>xJ n (.list (xs.take lo.toNat))
def jH:Operator→V→V→M V
 | .Add,.int a,.int b=>ret (.int (a+b))
 | .Sub,.int a,.int b=>ret (.int (a - b))
 | .Add,.tup a,.tup b=>if a.length+b.length≤1000 then ret (.tup (a++b))else fail
 | _,_,_=>fail
def bM3:Fl→V
 | .ret v=>v
 | .next=>.none
section
variable (call:CT)
def bW5 (o i:Expr)(v:V)(sc:Scope)(ρ:LE):M LE:=match i with
 | .Slice _ _ _ _=>fail
 | i=>aB (ev call o sc ρ) λov=>aB (ev call i sc ρ) λiv=>aB (b7 iv v ov) λ_=>ret ρ
def asg (t:Expr)(v:V)(sc:Scope)(ρ:LE):M LE:=match t with
 | .Name x _=>if fG sc x then ret (upd ρ x v)else fail
 | .Tuple es k p=>bL (kP sc (.Tuple es k p) v ρ)
 | .Attribute o x _=>aB (ev call o sc ρ) λov=>aB (bH x v ov) λ_=>ret ρ
 | .Subscript o i _=>bW5 call o i v sc ρ
 | _=>fail
def lU:Expr→Bool
 | .Tuple _ _ _=>true
 | _=>false
def aE8 (b:Bool)(e:Expr)(sc:Scope)(ρ:LE):M V:=match e with
 | .List es _=>if es.length≤1000 then aB (j0 false (kG call es sc ρ)) λvs=>bN (.list vs)else fail
 | .Dict ks vs _=>aB (fU (rQ call ks sc ρ) (kG call vs sc ρ)) λkv=>if(kv.map (·.1)).Nodup∧kv.all (λe=>kS e.1)=true∧kv.length≤15 then bN (.dict kv)else fail
 | .Tuple es k p=>if b then fail else ev call (.Tuple es k p) sc ρ
 | e=>ev call e sc ρ
def ca3 (ts:List Expr)(e:Expr)(sc:Scope)(ρ:LE):M (Fl×LE):=match ts with
 | [t]=>aB (aE8 call (lU t) e sc ρ) λv=>aB (asg call t v sc ρ) λρ'=>ret (.next,ρ')
 | _=>fail
def ca2 (t:Expr)(op:Operator)(e:Expr)(sc:Scope)(ρ:LE):M (Fl×LE):=match t with
 | .Name x _=>if fG sc x then aB (bL (ρ x)) λold=>aB (ev call e sc ρ) λv=>aB (jH op old v) λr=>ret (.next,upd ρ x r)else fail
 | .Attribute o x _=>aB (ev call o sc ρ) λov=>aB (aR x ov) λold=>aB (ev call e sc ρ) λv=>aB (jH op old v) λr=>
   aB (bH x r ov) λ_=>ret (.next,ρ)
 | _=>fail
def bZ2 (o:Expr)(lo up st:Option Expr)(sc:Scope)(ρ:LE):M (Fl×LE):=match lo with
 | none=>fail
 | some lo=>match up with
  | some _=>fail
  | none=>match st with
   | some _=>fail
   | none=>aB (ev call o sc ρ) λov=>aB (ev call lo sc ρ) λl=>aB (bL (cA l)) λi=>aB (g9 i ov) λ_=>ret (.next,ρ)
def bZ3 (o i:Expr)(sc:Scope)(ρ:LE):M (Fl×LE):=match i with
 | .Slice lo up st _=>bZ2 call o lo up st sc ρ
 | i=>aB (ev call o sc ρ) λov=>aB (ev call i sc ρ) λiv=>aB (iW iv ov) λ_=>ret (.next,ρ)
def bZ1 (ts:List Expr)(sc:Scope)(ρ:LE):M (Fl×LE):=match ts with
 | [t]=>match t with
  | .Subscript o i _=>bZ3 call o i sc ρ
  | _=>fail
 | _=>fail
def bM8 (e:Expr)(sc:Scope)(ρ:LE):M (Fl×LE):=match e with
 | .Call f as ks p=>aB (ev call (.Call f as ks p) sc ρ) λ_=>ret (.next,ρ)
 | _=>fail
def bW9 (e:Option Expr)(sc:Scope)(ρ:LE):M (Fl×LE):=match e with
 | some e=>aB (ev call e sc ρ) λv=>aB (aA v) λv=>ret (.ret v,ρ)
 | none=>fail
mutual
def ex:Stmt→Scope→LE→M (Fl×LE)
 | .Expr e _,sc,ρ=>bM8 call e sc ρ
 | .Return e _,sc,ρ=>bW9 call e sc ρ
 | .Assign ts e _,sc,ρ=>ca3 call ts e sc ρ
 | .AugAssign t op e _,sc,ρ=>ca2 call t op e sc ρ
 | .Delete ts _,sc,ρ=>bZ1 call ts sc ρ
 | .If t b o _,sc,ρ=>aB (zV call t sc ρ (ev call t sc ρ)) λc=>if c then uH b sc ρ else uH o sc ρ
 | .While t b o _,sc,ρ=>match o with
  | []=>qF (λρ=>zV call t sc ρ (ev call t sc ρ)) (λρ=>uH b sc ρ) 1000 ρ
  | _=>fail
 | .For tgt it b o _,sc,ρ=>match o with
  | []=>aB (ev call it sc ρ) λx=>aB (bU x) λxs=>ac0 (still xs (aP x)) (λx ρ=>aB (bL (kP sc tgt x ρ)) λρ'=>uH b sc ρ') xs ρ
  | _=>fail
 | .Pass _,_,ρ=>ret (.next,ρ)
 | _,_,_=>fail
def uH:List Stmt→Scope→LE→M (Fl×LE)
 | [],_,ρ=>ret (.next,ρ)
 | s::r,sc,ρ=>aB (ex s sc ρ) (am0 (λρ'=>uH r sc ρ'))
end
end
set_option genInjectivity false in
structure Fn where
 ps:List Str
 body:List Stmt
 sc:Scope
def lW:Stmt→Option Fn
 | .FunctionDef _ a b _ _ _ sc _ _ _=>some ⟨a.args.map (·.arg),b,sc⟩
 | _=>Option.none
def aT (i j:Nat):Option Fn:=(PySem.Challenge.pw_xm0449_01.main.body[i]?).bind λs=>match j with
 | 0=>lW s
 | j+1=>match s with
  | .ClassDef _ _ _ b _ _ _ _ _ _ _=>(b[j]?).bind lW
  | _=>Option.none
def yX (call:CT)(f:Fn)(vs:List V):M V:=
 aB (bL (cZ f.ps vs (λ_=>Option.none))) λρ=>aB (dD (f.ps.all (fG f.sc)&&decide f.ps.Nodup)) λ_=>aB (uH call f.body f.sc ρ) λp=>ret (bM3 p.1)
def aD:Nat→CT
 | 0,_,_=>fail
 | n+1,.fn i j,vs=>aB (bL (aT i j)) λf=>yX (aD n) f vs
 | _,_,_=>fail
end Mine.Internal
namespace Mine.Internal
open PySem PySem.W PyProof.Rows
set_option genInjectivity false in
structure Book where
 fa:Nat→Nat→Addr
 ca:Nat→Addr
def faL:List (Nat×Nat×Nat):=[(0,0,21),(5,1,36),(6,1,57),(7,1,76),(7,2,83),(7,3,90),(7,4,97),(58,1,145),(58,2,152),(58,3,159),(59,1,180),(60,0,194),(61,0,202),(62,0,210),(63,0,218),(64,0,226),(65,0,233),(66,0,240),(67,0,247),(68,0,254),(69,0,261),(70,0,268),(71,0,275),(72,0,280),(73,0,287),(74,0,294),(75,0,301),(76,0,306),(77,0,311),(78,0,318),(79,0,325),(81,0,332),(82,0,339),(83,0,346),(85,0,353),(86,0,360),(90,1,374),(90,2,381),(90,3,388),(90,4,395),(90,5,402),(90,6,409),(90,7,416),(90,8,423),(90,9,430),(90,10,437),(90,11,444),(90,12,451),(90,13,458),(90,14,465),(90,15,472),(90,16,479),(90,17,486),(90,18,493),(90,19,500),(110,1,527),(110,2,534),(110,3,541),(110,4,548),(110,5,555),(110,6,562),(110,7,569),(111,0,583),(112,0,590),(113,0,597),(114,0,604),(115,0,611),(116,0,618),(117,0,625),(118,0,632),(119,0,639),(120,0,646),(121,0,653),(122,0,660),(123,0,667),(124,0,674),(125,0,681),(126,0,688),(127,0,695),(128,0,702),(129,0,709),(130,0,716),(131,0,723),(132,0,730),(133,0,737),(135,0,744),(136,0,751),(138,0,758),(139,0,765),(140,0,772),(141,0,777),(142,0,784),(143,0,789),(144,0,796),(145,0,801),(146,0,806),(147,0,811),(148,0,818),(149,0,823),(150,0,828),(151,0,835),(152,0,842),(153,0,849),(154,0,856)]
def caL:List (Nat×Nat):=[(5,39),(6,60),(7,100),(58,162),(59,183),(90,503),(110,572)]
@[irreducible] def B:Book:=⟨λi j=>((faL.find? λe=>e.1==i&&e.2.1==j).map (·.2.2)).getD 0,λi=>((caL.find? λe=>e.1==i).map (·.2)).getD 0⟩
@[irreducible] def prog:Program:=PySem.Challenge.rw_xm0449_01.row.prog
theorem bF3:prog=PySem.Challenge.rw_xm0449_01.row.prog:=by unfold prog;rfl
theorem rI {a b:Addr}{G:Prop}(h:Value.ref a=Value.ref b)(k:a=b→G):G:=k (Value.ref.inj h)
set_option genInjectivity false in
structure Loc where
 a:Nat
 d:Nat
abbrev p9 (vs:List Value)(n:Nat):Obj:={ cls:=.type "tuple",data:=.seq vs.toArray n }
abbrev j9 (vs:List Value)(n:Nat):Obj:={ cls:=.type "list",data:=.seq vs.toArray n }
mutual
def iT (w:World):V→Int
 | .int i=>hashInt i
 | .str s=>hashStr w s
 | .tup xs=>reduceHash (Builtin.Tuple.tupleHashOf (fA w xs))
 | _=>0
def fA (w:World):List V→List Int
 | []=>[]
 | x::r=>iT w x::fA w r
end
section
variable (w:World)(h:Heap)(μ:List Loc)(F:Addr→Prop)
mutual
def cD:V→Value→Prop
 | .none,v=>v=.none
 | .bool b,v=>v=.bool b
 | .int i,v=>∃t,v=.int i t
 | .str s,v=>∃t,v=.str s t
 | .tup xs,v=>∃a vs n,v=.ref a∧F a∧h.get? a=some (p9 vs n)∧bC xs vs∧xs.length≤200000
 | .lst xs,v=>∃a vs n,v=.ref a∧F a∧h.get? a=some (j9 vs n)∧bC xs vs∧xs.length≤200000
 | .dct ks vs,v=>∃a es n,v=.ref a∧F a∧(a==sysModules)=false∧h.get? a=some (dictOf es n)∧bC ks (es.map (·.key))∧es.map (·.hash)=fA w ks∧bC vs (es.map (·.val))∧ks.Nodup∧ks.length≤200000
 | .ref n,v=>∃l,μ[n]?=some l∧v=.ref l.a
 | .fn i j,v=>v=.ref (B.fa i j)
 | .cl i,v=>v=.ref (B.ca i)
 | .bi id,v=>v=.builtin id
 | .ty n,v=>v=.type n
 | .rng n,v=>∃r t u t',v=.ref r∧F r∧IsRange h r 0 n 1 t u t'∧0≤n∧n < 1000
def bC:List V→List Value→Prop
 | [],vs=>vs=[]
 | x::xs,vs=>∃v r,vs=v::r∧cD x v∧bC xs r
end
def dX:List (Str×V)→List DictEntry→Prop
 | [],es=>es=[]
 | x::r,es=>∃e t es',es=e::es'∧e.key=.str x.1 t∧cD w h μ F x.2 e.val∧dX r es'
def bp0 (l:Loc):O→Prop
 | .list xs=>∃vs n,h.get? l.a=some (j9 vs n)∧l.d=l.a∧bC w h μ F xs vs∧xs.length≤200000
 | .dict es=>∃en n,h.get? l.a=some (dictOf en n)∧l.d=l.a∧bC w h μ F (es.map (·.1)) (en.map (·.key))∧en.map (·.hash)=fA w (es.map (·.1))∧
   bC w h μ F (es.map (·.2)) (en.map (·.val))∧(es.map (·.1)).Nodup∧es.length≤200000
 | .inst c fs=>h.get? l.a=some (instObj (B.ca c) l.d)∧∃en n,h.get? l.d=some (dictOf en n)∧dX w h μ F fs en∧(fs.map (·.1)).Nodup∧c∈w5
 | .gone=>True
end
def bQ5:O→Bool
 | .gone=>false
 | _=>true
def Wr (μ:List Loc)(Y:H)(a:Addr):Prop:=∃(n:Nat) (l:Loc) (o:O),μ[n]?=some l∧Y[n]?=some o∧bQ5 o=true∧(a=l.a∨a=l.d)
abbrev Fz (X:Addr→Prop)(μ:List Loc)(Y:H)(a:Addr):Prop:=¬Wr μ Y a∧¬X a
structure Sta (X:Addr→Prop) (w:World) (hZ h:Heap) (μ:List Loc) (Y:H):Prop where
 len:μ.length=Y.length
 obj:∀(n:Nat) (l:Loc) (o:O),μ[n]?=some l→Y[n]?=some o→bp0 w h μ (Fz X μ Y) l o
 apart:∀(m n:Nat) (l l':Loc),m≠n→μ[m]?=some l→μ[n]?=some l'→l.a≠l'.a∧l.a≠l'.d∧l.d≠l'.a∧l.d≠l'.d
 base:∀b o,hZ.get? b=some o→h.get? b=some o
 low:∃o,hZ.get? sysModules=some o
 off:∀(n:Nat) (l:Loc),μ[n]?=some l→hZ.get? l.a=none∧hZ.get? l.d=none∧(∃o,h.get? l.a=some o)∧∃o,h.get? l.d=some o
 frames:∀a,X a→hZ.get? a=none∧∃o,h.get? a=some o
 offX:∀(n:Nat) (l:Loc),μ[n]?=some l→¬X l.a∧¬X l.d
structure Stp (X:Addr→Prop) (w:World) (hZ h:Heap) (μ:List Loc) (Y:H) (h':Heap) (μ':List Loc) (Y':H):Prop where
 pre:μ <+: μ'
 st:Sta X w hZ h' μ' Y'
 keep:∀b o,h.get? b=some o→¬Wr μ Y b→h'.get? b=some o
 wr:∀b,Wr μ' Y' b→Wr μ Y b∨h.get? b=none
structure Kept (h:Heap) (μ:List Loc) (F:Addr→Prop) (h':Heap) (μ':List Loc) (F':Addr→Prop):Prop where
 pre:μ <+: μ'
 keep:∀b o,h.get? b=some o→F b→h'.get? b=some o∧F' b
section
variable {X:Addr→Prop}{w:World}{hZ h h' h'':Heap}{μ μ' μ'':List Loc}{Y Y' Y'':H}{F F' F'':Addr→Prop}
theorem Stp.kept (x:Stp X w hZ h μ Y h' μ' Y'):Kept h μ (Fz X μ Y) h' μ' (Fz X μ' Y'):=
 ⟨x.pre,λb o e f=>⟨x.keep b o e f.1,λhw=>(x.wr b hw).elim f.1 λg=>(by rw[e]at g;cases g),f.2⟩⟩
theorem fZ {n:Nat}{l:Loc}(p:μ <+: μ')(e:μ[n]?=some l):μ'[n]?=some l:=by
 obtain⟨t,rfl⟩:=p;rw[List.getElem?_append_left (zG e).1];exact e
theorem bC.cons {x:V}{v:Value}{xs:List V}{vs:List Value}(a:cD w h μ F x v)(b:bC w h μ F xs vs):bC w h μ F (x::xs) (v::vs):=by
 show ∃_,_;exact⟨v,vs,rfl,a,b⟩
mutual
theorem cD.kept (k:Kept h μ F h' μ' F'):∀(x:V) (v:Value),cD w h μ F x v→cD w h' μ' F' x v
 | .none,_,r=>r
 | .bool _,_,r=>r
 | .int _,_,r=>r
 | .str _,_,r=>r
 | .tup xs,v,r=>by
  show ∃_,_;obtain⟨a,vs,n,e,f,g,l,z⟩:=r;exact⟨a,vs,n,e,(k.keep _ _ g f).2,(k.keep _ _ g f).1,bC.kept k xs vs l,z⟩
 | .lst xs,v,r=>by
  show ∃_,_;obtain⟨a,vs,n,e,f,g,l,z⟩:=r;exact⟨a,vs,n,e,(k.keep _ _ g f).2,(k.keep _ _ g f).1,bC.kept k xs vs l,z⟩
 | .dct ks vs,v,r=>by
  show ∃_,_;obtain⟨a,es,n,e,f,s,g,l1,hh,l2,nd⟩:=r;exact⟨a,es,n,e,(k.keep _ _ g f).2,s,(k.keep _ _ g f).1,bC.kept k ks _ l1,hh,bC.kept k vs _ l2,nd⟩
 | .ref n,v,r=>by
  show ∃_,_;obtain⟨l,e,q⟩:=r;exact⟨l,fZ k.pre e,q⟩
 | .fn _ _,_,r=>r
 | .cl _,_,r=>r
 | .bi _,_,r=>r
 | .ty _,_,r=>r
 | .rng n,v,r=>by
  show ∃_,_;obtain⟨a,t,u,t',e,f,g,b⟩:=r;exact⟨a,t,u,t',e,(k.keep _ _ g f).2,(k.keep _ _ g f).1,b⟩
theorem bC.kept (k:Kept h μ F h' μ' F'):∀(xs:List V) (vs:List Value),bC w h μ F xs vs→bC w h' μ' F' xs vs
 | [],_,r=>r
 | x::xs,vs,r=>by
  show ∃_,_;obtain⟨v,s,e,a,b⟩:=r;exact⟨v,s,e,cD.kept k x v a,bC.kept k xs s b⟩
end
theorem dX.kept (k:Kept h μ F h' μ' F'):∀(fs:List (Str×V)) (es:List DictEntry),dX w h μ F fs es→dX w h' μ' F' fs es:=by
 intro ll
 induction ll with
 | nil=>
  intro _ r;exact r
 | cons x r ih=>
  intro es q;show ∃_,_;obtain⟨e,t,es',h1,h2,h3,h4⟩:=q;exact⟨e,t,es',h1,h2,cD.kept k _ _ h3,ih es' h4⟩
theorem Stp.rep (x:Stp X w hZ h μ Y h' μ' Y'){v:V}{u:Value}(r:cD w h μ (Fz X μ Y) v u):cD w h' μ' (Fz X μ' Y') v u:=cD.kept x.kept _ _ r
theorem Stp.repL (x:Stp X w hZ h μ Y h' μ' Y'){v:List V}{u:List Value}(r:bC w h μ (Fz X μ Y) v u):bC w h' μ' (Fz X μ' Y') v u:=bC.kept x.kept _ _ r
theorem aA0 {W:Addr→Prop}(k:∀b o,h.get? b=some o→¬W b→h'.get? b=some o){b:Addr}(g:h'.get? b=none):W b∨h.get? b=none:=by
 by_cases q:W b
 ·exact .inl q
 ·refine .inr ?_;cases e:h.get? b with
  | none=>rfl
  | some o=>rw[k b o e q]at g;cases g
theorem Stp.refl (x:Sta X w hZ h μ Y):Stp X w hZ h μ Y h μ Y:=⟨List.prefix_refl _,x,λ_ _ e _=>e,λ_ e=>.inl e⟩
theorem Stp.trans (x:Stp X w hZ h μ Y h' μ' Y')(y:Stp X w hZ h' μ' Y' h'' μ'' Y''):Stp X w hZ h μ Y h'' μ'' Y'':=
 ⟨x.pre.trans y.pre,y.st,λb o e f=>y.keep b o (x.keep b o e f) (λhw=>(x.wr b hw).elim f λg=>by rw[e]at g;cases g),
  λb e=>(y.wr b e).elim (x.wr b) λg=>aA0 x.keep g⟩
theorem bO:∀{xs:List V} {vs:List Value},bC w h μ F xs vs→xs.length=vs.length
 | [],_,r=>by subst r;rfl
 | x::xs,vs,r=>by
  obtain⟨v,s,rfl,_,b⟩:=r;simp[bO b]
theorem aL2:∀{xs:List V} {vs:List Value},bC w h μ F xs vs→∀{k:Nat} {x:V},xs[k]?=some x→∃v,vs[k]?=some v∧cD w h μ F x v:=by
 intro ll
 induction ll with
 | nil=>
  intro _ _ k x e;simp at e
 | cons y xs ih=>
  intro vs r k x e;obtain⟨v,s,rfl,a,b⟩:=r;cases k with
  | zero=>simp only[List.getElem?_cons_zero,Option.some.injEq]at e;subst e;exact⟨v,rfl,a⟩
  | succ k=>simp only[List.getElem?_cons_succ]at e ⊢;exact ih b e
theorem eX:∀{xs ys:List V} {vs us:List Value},bC w h μ F xs vs→bC w h μ F ys us→bC w h μ F (xs++ys) (vs++us):=by
 intro ll
 induction ll with
 | nil=>
  intro _ _ _ r q;subst r;exact q
 | cons x xs ih=>
  intro ys vs us r q;obtain⟨v,s,rfl,a,b⟩:=r;show ∃_,_;exact⟨v,s++us,rfl,a,ih b q⟩
theorem xL:∀{xs:List V} {vs:List Value} (k:Nat),bC w h μ F xs vs→bC w h μ F (xs.take k) (vs.take k):=by
 intro xs
 induction xs with
 | nil=>intro vs k r;subst r;cases k<;>rfl
 | cons x xs ih=>
  intro vs k r;cases k with
  | zero=>rfl
  | succ k=>
  obtain⟨v,s,rfl,a,b⟩:=r;show ∃_,_;exact⟨v,s.take k,rfl,a,ih k b⟩
theorem az0:∀{xs:List V} {vs:List Value} (k:Nat),bC w h μ F xs vs→bC w h μ F (xs.drop k) (vs.drop k)
 | xs,vs,0,r=>by simpa using r
 | [],vs,k+1,r=>by subst r;rfl
 | x::xs,vs,k+1,r=>by
  obtain⟨v,s,rfl,a,b⟩:=r;exact az0 k b
theorem vE:∀{xs:List V} {vs:List Value},bC w h μ F xs vs→bC w h μ F xs.reverse vs.reverse
 | [],_,r=>by subst r;rfl
 | x::xs,vs,r=>by
  obtain⟨v,s,rfl,a,b⟩:=r;simp only[List.reverse_cons];exact eX (vE b) (by exact bC.cons (a) (rfl))
mutual
def cb7:V→Nat
 | .tup xs=>bt0 xs+1
 | .lst xs=>bt0 xs+1
 | _=>0
def bt0:List V→Nat
 | []=>0
 | x::r=>max (cb7 x) (bt0 r)
end
theorem ap3 {n:Nat}{xs:List V}(d:fM n xs=true):∀x∈xs,dO n x=true:=by
 induction xs with
 | nil=>exact λx h=>nomatch h
 | cons y xs ih=>
  have d:=zB d;exact λx h=>(List.mem_cons.mp h).elim (λe=>e▸d.1) (ih d.2 x)
theorem aC7 {n:Nat}{x:V}(d:dO n x=true):x=.none∨(∃b,x=.bool b)∨(∃i,x=.int i)∨(∃s,x=.str s∧PyData.strOk s=true)∨∃m xs,n=m+1∧fM m xs=true∧(x=.tup xs∨x=.lst xs):=by
 cases x
 case none=>exact .inl rfl
 case bool b=>exact .inr (.inl ⟨b,rfl⟩)
 case int b=>exact .inr (.inr (.inl ⟨b,rfl⟩))
 case str b=>exact .inr (.inr (.inr (.inl ⟨b,rfl,d⟩)))
 case tup xs=>cases n with
  | zero=>exact oN d
  | succ m=>exact .inr (.inr (.inr (.inr ⟨m,xs,rfl,d,.inl rfl⟩)))
 case lst xs=>cases n with
  | zero=>exact oN d
  | succ m=>exact .inr (.inr (.inr (.inr ⟨m,xs,rfl,d,.inr rfl⟩)))
 all_goals exact oN d
theorem xN {n:Nat}(H:∀(x:V) (v:Value),dO n x=true→cD w h μ F x v→∃as,Reads h v (pd x) as){xs:List V}:∀(vs:List Value),fM n xs=true→bC w h μ F xs vs→∃as,ReadsAll h vs (pdL xs) as:=by
 induction xs with
 | nil=>intro vs _ r;subst r;exact⟨_,.nil⟩
 | cons x xs ih=>
  intro vs d r;obtain⟨v,s,rfl,a,b⟩:=r;have d:=zB d;obtain⟨as,q⟩:=H x v d.1 a;obtain⟨bs,q'⟩:=ih s d.2 b;exact⟨as++bs,.cons q q'⟩
theorem nO (n:Nat):∀(x:V) (v:Value),dO n x=true→cD w h μ F x v→∃as,Reads h v (pd x) as:=by
 induction n using Nat.strongRecOn with | _ n ih=>
 intro x v d r;rcases aC7 d with rfl | ⟨b,rfl⟩ | ⟨i,rfl⟩ | ⟨s,rfl,_⟩ | ⟨m,xs,rfl,d',q⟩
 ·subst r;exact⟨_,.none⟩
 ·subst r;exact⟨_,.bool b⟩
 ·obtain⟨t,rfl⟩:=r;exact⟨_,.int i t⟩
 ·obtain⟨t,rfl⟩:=r;exact⟨_,.str s t⟩
 have H:=ih m (Nat.lt_succ_self m);clear ih d;rcases q with rfl | rfl
 ·obtain⟨a,vs,k,rfl,_,g,l,_⟩:=r;obtain⟨as,q⟩:=xN H vs d' l;exact⟨as,.tuple g rfl rfl q⟩
 ·obtain⟨a,vs,k,rfl,_,g,l,_⟩:=r;obtain⟨as,q⟩:=xN H vs d' l;exact⟨a::as,.list g rfl rfl q⟩
theorem bh7 (n:Nat)(xs:List V)(vs:List Value)(d:fM n xs=true)(r:bC w h μ F xs vs):∃as,ReadsAll h vs (pdL xs) as:=xN (nO n) vs d r
theorem u5 {n:Nat}{xs:List V}(H:∀x∈xs,(pd x).canLay0=true∧(pd x).depth≤n):PyData.canLayAll0 (pdL xs)=true∧PyData.depthAll (pdL xs)≤n:=by
 induction xs with
 | nil=>exact⟨rfl,Nat.zero_le n⟩
 | cons x xs ih=>
  have a:=H x (.head _);have b:=ih λy h=>H y (.tail _ h);exact⟨Bool.and_eq_true_iff.mpr ⟨a.1,b.1⟩,Nat.max_le.mpr ⟨a.2,b.2⟩⟩
theorem lE (n:Nat):∀(x:V),dO n x=true→(pd x).canLay0=true∧(pd x).depth≤n:=by
 induction n using Nat.strongRecOn with | _ n ih=>
 intro x d;rcases aC7 d with rfl | ⟨b,rfl⟩ | ⟨i,rfl⟩ | ⟨s,rfl,k⟩ | ⟨m,xs,rfl,d',q⟩
 ·exact⟨rfl,Nat.zero_le n⟩
 ·exact⟨rfl,Nat.zero_le n⟩
 ·exact⟨rfl,Nat.zero_le n⟩
 ·exact⟨k,Nat.zero_le n⟩
 have H:=u5 λx h=>ih m (Nat.lt_succ_self m) x (ap3 d' x h);rcases q with rfl | rfl
 ·exact⟨H.1,Nat.succ_le_succ H.2⟩
 ·exact⟨H.1,Nat.succ_le_succ H.2⟩
theorem aZ4 (n:Nat)(xs:List V)(d:fM n xs=true):PyData.canLayAll0 (pdL xs)=true∧PyData.depthAll (pdL xs)≤n:=u5 λx h=>lE n x (ap3 d x h)
end
section
variable {X:Addr→Prop}{w:World}{hZ h h':Heap}{μ μ':List Loc}{Y Y':H}{n:Nat}{l:Loc}{o o':O}
theorem Wr.at (S:Sta X w hZ h μ Y){a:Addr}(x:Wr μ Y a):∃o,h.get? a=some o:=by
 obtain⟨n,l,o,e,_,_,q⟩:=x;have:=S.off n l e;rcases q with rfl | rfl
 ·exact this.2.2.1
 ·exact this.2.2.2
theorem Sta.fresh' (S:Sta X w hZ h μ Y){a:Addr}(x:h.get? a=none):Fz X μ Y a:=
 ⟨λy=>(by obtain⟨o,e⟩:=Wr.at S y;rw[x]at e;cases e),λy=>(by obtain⟨o,e⟩:=(S.frames _ y).2;rw[x]at e;cases e)⟩
theorem Sta.fresh (S:Sta X w hZ h μ Y){a:Addr}(x:h.objs.size≤a):Fz X μ Y a:=S.fresh' (Heap.get?_none_of_le x)
theorem Sta.none0 (S:Sta X w hZ h μ Y){a:Addr}(x:h.get? a=none):hZ.get? a=none:=by
 cases e:hZ.get? a with
 | none=>rfl
 | some o=>rw[S.base a o e]at x;cases x
theorem bp0.carry {F F':Addr→Prop}(k:Kept h μ F h' μ' F')(ha:∀x,h.get? l.a=some x→h'.get? l.a=some x)(hd:∀x,h.get? l.d=some x→h'.get? l.d=some x)
  (r:bp0 w h μ F l o):bp0 w h' μ' F' l o:=by
 cases o with
 | list xs=>
  obtain⟨vs,n,e,q,rl,z⟩:=r;exact⟨vs,n,ha _ e,q,bC.kept k _ _ rl,z⟩
 | dict es=>
  obtain⟨en,n,e,q,r1,hh,r2,nd,z⟩:=r;exact⟨en,n,ha _ e,q,bC.kept k _ _ r1,hh,bC.kept k _ _ r2,nd,z⟩
 | inst c fs=>
  obtain⟨e,en,n,e2,f,nd,cl⟩:=r;exact⟨ha _ e,en,n,hd _ e2,dX.kept k _ _ f,nd,cl⟩
 | gone=>trivial
theorem Stp.ext (S:Sta X w hZ h μ Y)(hk:∀b o,h.get? b=some o→h'.get? b=some o):Stp X w hZ h μ Y h' μ Y:=
 have K:Kept h μ (Fz X μ Y) h' μ (Fz X μ Y):=⟨List.prefix_refl _,λb o e f=>⟨hk b o e,f⟩⟩
 ⟨List.prefix_refl _,⟨S.len,λn l o e1 e2=>(S.obj n l o e1 e2).carry K (λx=>hk _ x) (λx=>hk _ x),S.apart,λb o e=>hk _ _ (S.base b o e),S.low,
  λn l e=>⟨(S.off n l e).1,(S.off n l e).2.1,(S.off n l e).2.2.1.imp λo e=>hk _ o e,(S.off n l e).2.2.2.imp λo e=>hk _ o e⟩,λa x=>⟨(S.frames a x).1,(S.frames a x).2.imp λo e=>hk _ o e⟩,S.offX⟩,
  λb o e _=>hk b o e,λ_ x=>.inl x⟩
theorem Stp.push (S:Sta X w hZ h μ Y)(x:Obj):Stp X w hZ h μ Y (h.push x) μ Y:=
 Stp.ext S (λ_ _ e=>Heap.get?_push_of_some _ e)
theorem Stp.same (S:Sta X w hZ h μ Y):Stp X w hZ h μ Y h μ Y:=Stp.refl S
theorem Stp.extBut (S:Sta X w hZ h μ Y){a:Addr}(ha:h.objs.size≤a)(hk:Heap.ExtBut a h h'):Stp X w hZ h μ Y h' μ Y:=
 Stp.ext S (λb o e=>hk b o (Nat.ne_of_lt (Nat.lt_of_lt_of_le (Heap.lt_size e) ha)) e)
theorem Wr.set_sub {a:Addr}(hn:∃o,Y[n]?=some o∧bQ5 o=true)(x:Wr μ (Y.set n o') a):Wr μ Y a:=by
 obtain⟨m,l,o₁,e1,e2,e3,e4⟩:=x;rw[List.getElem?_set]at e2;split at e2
 ·rename_i q;subst q;obtain⟨o,h1,h2⟩:=hn;exact⟨n,l,o,e1,h1,h2,e4⟩
 ·exact⟨m,l,o₁,e1,e2,e3,e4⟩
theorem Stp.set (S:Sta X w hZ h μ Y)(e1:μ[n]?=some l)(e2:Y[n]?=some o)(hl:bQ5 o=true)
  (hs:∀b,b≠l.a→b≠l.d→h'.get? b=h.get? b) (hz:(∃o,h'.get? l.a=some o)∧∃o,h'.get? l.d=some o)
  (hr:Kept h μ (Fz X μ Y) h' μ (Fz X μ (Y.set n o'))→bp0 w h' μ (Fz X μ (Y.set n o')) l o'):Stp X w hZ h μ Y h' μ (Y.set n o'):=by
 have ex:∀b,(∃o,h.get? b=some o)→∃o,h'.get? b=some o:=λb ⟨o,e⟩=>by
  by_cases q1:b=l.a
  ·rw[q1];exact hz.1
  ·by_cases q2:b=l.d
   ·rw[q2];exact hz.2
   ·exact⟨o,(hs b q1 q2).trans e⟩
 have wa:∀b,Fz X μ Y b→b≠l.a∧b≠l.d:=λb f=>⟨λe=>f.1 ⟨n,l,o,e1,e2,hl,.inl e⟩,λe=>f.1 ⟨n,l,o,e1,e2,hl,.inr e⟩⟩;have sub:∀b,Fz X μ Y b→Fz X μ (Y.set n o') b:=λb f=>⟨λx=>f.1 (Wr.set_sub ⟨o,e2,hl⟩ x),f.2⟩;have K:Kept h μ (Fz X μ Y) h' μ (Fz X μ (Y.set n o')):=⟨List.prefix_refl _,λb x e f=>⟨(hs b (wa b f).1 (wa b f).2).trans e,sub b f⟩⟩;refine⟨List.prefix_refl _,⟨by rw[List.length_set];exact S.len,λm l' o'' g1 g2=>?_,S.apart,λb x e=>?_,S.low,λm l' g=>?_,λa x=>⟨(S.frames a x).1,ex _ (S.frames a x).2⟩,S.offX⟩,λb x e f=>?_,λb x=>.inl (Wr.set_sub ⟨o,e2,hl⟩ x)⟩
 ·rw[List.getElem?_set]at g2;split at g2
  ·rename_i q;subst q;rw[e1]at g1;cases g1;split at g2
   ·cases g2;exact hr K
   ·cases g2
  ·rename_i q;have ap:=S.apart m n l' l (λe=>q e.symm) g1 e1;refine(S.obj m l' o'' g1 g2).carry K (λx e=>?_) (λx e=>?_)
   ·rw[hs _ ap.1 ap.2.1];exact e
   ·rw[hs _ ap.2.2.1 ap.2.2.2];exact e
 ·have o1:=(S.off n l e1)
  rw[hs b (λq=>by rw[q,o1.1]at e;cases e) (λq=>by rw[q,o1.2.1]at e;cases e)];exact S.base b x e
 ·exact⟨(S.off m l' g).1,(S.off m l' g).2.1,ex _ (S.off m l' g).2.2.1,ex _ (S.off m l' g).2.2.2⟩
 ·have wa':b≠l.a∧b≠l.d:=⟨λe=>f ⟨n,l,o,e1,e2,hl,.inl e⟩,λe=>f ⟨n,l,o,e1,e2,hl,.inr e⟩⟩
  rw[hs b wa'.1 wa'.2];exact e
theorem Stp.alloc (S:Sta X w hZ h μ Y)(hk:∀b o,h.get? b=some o→h'.get? b=some o)
  (ha:h.get? l.a=none∧∃o,h'.get? l.a=some o) (hd:h.get? l.d=none∧∃o,h'.get? l.d=some o)
  (hr:Kept h μ (Fz X μ Y) h' (μ++[l]) (Fz X (μ++[l]) (Y++[o]))→bp0 w h' (μ++[l]) (Fz X (μ++[l]) (Y++[o])) l o):Stp X w hZ h μ Y h' (μ++[l]) (Y++[o]):=by
 have new:∀b,Wr (μ++[l]) (Y++[o]) b→Wr μ Y b∨h.get? b=none:=by
  rintro b ⟨m,l',o₁,g1,g2,g3,g4⟩;by_cases q:m < μ.length
  ·rw[List.getElem?_append_left q]at g1;rw[List.getElem?_append_left (by rw[←S.len];exact q)]at g2;exact .inl ⟨m,l',o₁,g1,g2,g3,g4⟩
  ·rw[List.getElem?_append_right (by lia)]at g1;have:m - μ.length=0:=by
    have:=(zG g1).1;simp at this;lia
   rw[this]at g1;simp only[List.getElem?_cons_zero,Option.some.injEq]at g1;subst g1;rcases g4 with rfl | rfl
   ·exact .inr ha.1
   ·exact .inr hd.1
 have K:Kept h μ (Fz X μ Y) h' (μ++[l]) (Fz X (μ++[l]) (Y++[o])):=⟨List.prefix_append _ _,λb x e f=>⟨hk b x e,λq=>(new b q).elim f.1 λg=>(by rw[e]at g;cases g),f.2⟩⟩;refine⟨List.prefix_append _ _,⟨by simp[S.len],λm l' o'' g1 g2=>?_,λm m' l₁ l₂ hne g1 g2=>?_,λb x e=>hk _ _ (S.base b x e),S.low,λm l' g=>?_,λa x=>⟨(S.frames a x).1,(S.frames a x).2.imp λo e=>hk _ o e⟩,λm l' g=>?_⟩,λb x e _=>hk b x e,new⟩
 ·by_cases q:m < μ.length
  ·rw[List.getElem?_append_left q]at g1;rw[List.getElem?_append_left (by rw[←S.len];exact q)]at g2;exact(S.obj m l' o'' g1 g2).carry K (λx=>hk _ x) (λx=>hk _ x)
  ·have q2:m=μ.length:=by
    have:=(zG g1).1;simp at this;lia
   subst q2;rw[zJ]at g1;rw[S.len,zJ]at g2;simp only[List.getElem?_cons_zero,Option.some.injEq]at g1 g2;subst g1;subst g2;exact hr K
 ·have get:∀{k:Nat} {l':Loc},(μ++[l])[k]?=some l'→(k < μ.length∧μ[k]?=some l')∨(k=μ.length∧l'=l):=by
   intro k l' g;by_cases q:k < μ.length
   ·rw[List.getElem?_append_left q]at g;exact .inl ⟨q,g⟩
   ·have q2:k=μ.length:=by
     have:=(zG g).1;simp at this;lia
    subst q2;rw[zJ]at g;simp only[List.getElem?_cons_zero,Option.some.injEq]at g;exact .inr ⟨rfl,g.symm⟩
  have ne:∀{a b:Nat},(∃o,h.get? a=some o)→h.get? b=none→a≠b:=λ⟨o,e⟩ g q=>by rw[q,g]at e;cases e
  rcases get g1 with⟨a1,b1⟩ | ⟨a1,rfl⟩<;>rcases get g2 with⟨a2,b2⟩ | ⟨a2,rfl⟩
  ·exact S.apart m m' _ _ hne b1 b2
  ·have q:=S.off _ _ b1
   exact⟨ne q.2.2.1 ha.1,ne q.2.2.1 hd.1,ne q.2.2.2 ha.1,ne q.2.2.2 hd.1⟩
  ·have q:=S.off _ _ b2
   exact⟨(ne q.2.2.1 ha.1).symm,(ne q.2.2.2 ha.1).symm,(ne q.2.2.1 hd.1).symm,(ne q.2.2.2 hd.1).symm⟩
  ·exact absurd (a1.trans a2.symm) hne
 ·by_cases q:m < μ.length
  ·rw[List.getElem?_append_left q]at g;have q:=S.off m l' g;exact⟨q.1,q.2.1,q.2.2.1.imp λo e=>hk _ o e,q.2.2.2.imp λo e=>hk _ o e⟩
  ·have q2:m=μ.length:=by
    have:=(zG g).1;simp at this;lia
   subst q2;rw[zJ]at g;simp only[List.getElem?_cons_zero,Option.some.injEq]at g;subst g;exact⟨S.none0 ha.1,S.none0 hd.1,ha.2,hd.2⟩
 ·by_cases q:m < μ.length
  ·rw[List.getElem?_append_left q]at g;exact S.offX m l' g
  ·have q2:m=μ.length:=by
    have:=(zG g).1;simp at this;lia
   subst q2;rw[zJ]at g;simp only[List.getElem?_cons_zero,Option.some.injEq]at g;subst g;exact⟨λx=>(by obtain⟨o,e⟩:=(S.frames _ x).2;rw[ha.1]at e;cases e),λx=>(by obtain⟨o,e⟩:=(S.frames _ x).2;rw[hd.1]at e;cases e)⟩
end
section
variable {α β:Type}{Y Y':H}{a b:α}
theorem aG {m:M α}{f:α→M β}{p:β×H}:aB m f Y=some p↔∃a Y₁,m Y=some (a,Y₁)∧f a Y₁=some p:=by
 unfold aB;cases m Y with
 | none=>simp
 | some q=>obtain⟨x,y⟩:=q;exact⟨λh=>⟨x,y,rfl,h⟩,λ⟨_,_,h1,h2⟩=>by cases h1;exact h2⟩
theorem aM:ret a Y=some (b,Y')↔b=a∧Y=Y':=by
 simp only[ret,Option.some.injEq,Prod.mk.injEq];exact⟨λh=>⟨h.1.symm,h.2⟩,λh=>⟨h.1.symm,h.2⟩⟩
theorem oH {p:α×H}:fail Y=some p↔False:=by simp[fail]
theorem wK {p:α}(e:none=some p):False:=Option.some_ne_none p e.symm
theorem aV {p:α}{P:Prop}(e:none=some p):P:=(wK e).elim
theorem jE {v:V}{k:Nat→M α}{p:α×H}(e:zH v k Y=some p):∃n,v=.ref n∧k n Y=some p:=by
 cases v
 case ref n=>exact⟨n,rfl,e⟩
 all_goals exact aV e
theorem yH {k:V}{i:Int}(e:cA k=some i):k=.int i:=by
 cases k
 case int j=>exact congrArg V.int (Option.some.inj e)
 all_goals exact aV e
theorem aW6 {k:V}(e:kI k=true):∃i,k=.int i:=by
 cases k
 case int j=>exact⟨j,rfl⟩
 all_goals exact oN e
theorem aW5 {k:V}(e:kS k=true):∃i,k=.str i:=by
 cases k
 case str j=>exact⟨j,rfl⟩
 all_goals exact oN e
theorem am6 {sc:Scope}{x:Str}(h:fG sc x=true):sc.names.lookup x=some .local∨sc.names.lookup x=some .cell:=by
 have go:∀o:Option NameKind,(match o with | some .local=>true | some .cell=>true | _=>false)=true→o=some .local∨o=some .cell:=λo h=>by
  cases o with
  | none=>exact oN h
  | some k=>cases k<;>first | exact .inl rfl | exact .inr rfl | exact oN h
 exact go _ h
theorem ba0 {k:V}{i:Bool}(e:aq2 k=some i):k=.bool i:=by
 cases k
 case bool j=>exact congrArg V.bool (Option.some.inj e)
 all_goals exact aV e
theorem bB {o:Option α}:bL o Y=some (b,Y')↔o=some b∧Y=Y':=by
 unfold bL;cases o with
 | none=>simp
 | some c=>simp only[Option.map_some,Option.some.injEq,Prod.mk.injEq]
theorem aY {c:Bool}{u:Unit}:dD c Y=some (u,Y')↔c=true∧Y=Y':=by
 unfold dD;cases c<;>simp[ret,fail]
theorem jJ {n:Nat}{o:O}:yY n Y=some (o,Y')↔Y[n]?=some o∧Y=Y':=by
 unfold yY;cases Y[n]? with
 | none=>simp
 | some c=>simp only[Option.map_some,Option.some.injEq,Prod.mk.injEq]
theorem bL2 {o:O}{xs:List V}:asL o=some xs↔o=.list xs:=by
 refine⟨λe=>?_,λe=>e▸rfl⟩;cases o
 case list ys=>exact congrArg O.list (Option.some.inj e)
 all_goals exact aV e
theorem bL4 {o:O}{es:List (V×V)}:mV o=some es↔o=.dict es:=by
 refine⟨λe=>?_,λe=>e▸rfl⟩;cases o
 case dict ys=>exact congrArg O.dict (Option.some.inj e)
 all_goals exact aV e
theorem bL3 {o:O}{p:Nat×List (Str×V)}:asI o=some p↔o=.inst p.1 p.2:=by
 refine⟨λe=>?_,λe=>e▸rfl⟩;cases o
 case inst c fs=>cases (show some (c,fs)=some p from e);rfl
 all_goals exact aV e
theorem gW {n:Nat}{xs:List V}:rdL n Y=some (xs,Y')↔Y[n]?=some (.list xs)∧Y=Y':=by
 unfold rdL;rw[aG];constructor
 ·rintro⟨o,Y₁,h1,h2⟩;rw[jJ]at h1;rw[bB,bL2]at h2;obtain⟨h1,rfl⟩:=h1;obtain⟨rfl,rfl⟩:=h2;exact⟨h1,rfl⟩
 ·rintro⟨h1,rfl⟩;exact⟨_,Y,jJ.mpr ⟨h1,rfl⟩,bB.mpr ⟨rfl,rfl⟩⟩
theorem kU {n:Nat}{es:List (V×V)}:rdD n Y=some (es,Y')↔Y[n]?=some (.dict es)∧Y=Y':=by
 unfold rdD;rw[aG];constructor
 ·rintro⟨o,Y₁,h1,h2⟩;rw[jJ]at h1;rw[bB,bL4]at h2;obtain⟨h1,rfl⟩:=h1;obtain⟨rfl,rfl⟩:=h2;exact⟨h1,rfl⟩
 ·rintro⟨h1,rfl⟩;exact⟨_,Y,jJ.mpr ⟨h1,rfl⟩,bB.mpr ⟨rfl,rfl⟩⟩
theorem o3 {n:Nat}{p:Nat×List (Str×V)}:rdI n Y=some (p,Y')↔Y[n]?=some (.inst p.1 p.2)∧Y=Y':=by
 unfold rdI;rw[aG];constructor
 ·rintro⟨o,Y₁,h1,h2⟩;rw[jJ]at h1;rw[bB,bL3]at h2;obtain⟨h1,rfl⟩:=h1;obtain⟨rfl,rfl⟩:=h2;exact⟨h1,rfl⟩
 ·rintro⟨h1,rfl⟩;exact⟨_,Y,jJ.mpr ⟨h1,rfl⟩,bB.mpr ⟨rfl,rfl⟩⟩
theorem kQ {n:Nat}{o:O}{u:Unit}:xJ n o Y=some (u,Y')↔Y'=Y.set n o:=by
 simp only[xJ,Option.some.injEq,Prod.mk.injEq,true_and];exact eq_comm
theorem pQ {o:O}{v:V}:bN o Y=some (v,Y')↔v=.ref Y.length∧Y'=Y++[o]:=by
 simp only[bN,Option.some.injEq,Prod.mk.injEq];exact⟨λh=>⟨h.1.symm,h.2.symm⟩,λh=>⟨h.1.symm,h.2.symm⟩⟩
end
def cU (X:Addr→Prop)(w:World)(hZ:Heap)(s:Shared)(μ:List Loc)(Y Y':H)(x:V)(Q:Value→Shared→Prop):Prop:=
 ∀v h' t' μ',Stp X w hZ s.heap μ Y h' μ' Y'→cD w h' μ' (Fz X μ' Y') x v→Q v { s with heap:=h',toks:=t' }
def bg2 (X:Addr→Prop)(w:World)(hZ:Heap)(s:Shared)(μ:List Loc)(Y Y':H)(Q:Unit→Shared→Prop):Prop:=
 ∀h' t' μ',Stp X w hZ s.heap μ Y h' μ' Y'→Q () { s with heap:=h',toks:=t' }
section
variable {X:Addr→Prop}{w:World}{hZ:Heap}{A:Around}{E:Value→Shared→Prop}{s:Shared}{μ:List Loc}{Y Y':H}{x y z:V}{u v:Value}{Q:Value→Shared→Prop}
theorem kD {a:Addr}{vs:List Value}{n:Nat}{h:Heap}(e:h.get? a=some (j9 vs n)):h.IsList a vs.toArray:=⟨_,e,rfl,n,rfl⟩
theorem uW {a:Addr}{vs:List Value}{n:Nat}{h:Heap}(e:h.get? a=some (p9 vs n)):IsTup h a vs.toArray:=⟨_,e,rfl,n,rfl⟩
theorem aZ:sizeLine=16777216:=by decide
theorem cU.ret (S:Sta X w hZ s.heap μ Y)(h:cU X w hZ s μ Y Y x Q)(r:cD w s.heap μ (Fz X μ Y) x v)(t':Nat):Q v { s with toks:=t' }:=
 h _ s.heap t' μ (Stp.same S) r
theorem gU (h:Heap)(μ:List Loc)(F:Addr→Prop)(i:Int)(t:Tok):cD w h μ F (.int i) (.int i t):=by show ∃_,_;exact⟨t,rfl⟩
theorem lI (h:Heap)(μ:List Loc)(F:Addr→Prop)(b:Bool):cD w h μ F (.bool b) (.bool b):=rfl
theorem qK (h:Heap)(μ:List Loc)(F:Addr→Prop):cD w h μ F .none .none:=rfl
theorem Stp.tup (S:Sta X w hZ s.heap μ Y){xs:List V}{vs:List Value}(r:bC w s.heap μ (Fz X μ Y) xs vs)(hz:xs.length≤200000)(n:Nat:=0) :
  Stp X w hZ s.heap μ Y (s.heap.push (p9 vs n)) μ Y∧cD w (s.heap.push (p9 vs n)) μ (Fz X μ Y) (.tup xs) (.ref s.heap.objs.size):=by
 have st:=Stp.push S (p9 vs n);refine⟨st,?_⟩;show ∃_,_;exact⟨_,vs,n,rfl,S.fresh zR,Heap.get?_push_size _ rfl,st.repL r,hz⟩
theorem Stp.lst (S:Sta X w hZ s.heap μ Y){xs:List V}{vs:List Value}(r:bC w s.heap μ (Fz X μ Y) xs vs)(hz:xs.length≤200000)(n:Nat:=0) :
  Stp X w hZ s.heap μ Y (s.heap.push (j9 vs n)) μ Y∧cD w (s.heap.push (j9 vs n)) μ (Fz X μ Y) (.lst xs) (.ref s.heap.objs.size):=by
 have st:=Stp.push S (j9 vs n);refine⟨st,?_⟩;show ∃_,_;exact⟨_,vs,n,rfl,S.fresh zR,Heap.get?_push_size _ rfl,st.repL r,hz⟩
theorem dG {xs:List Str}{vs:List V}{ρ ρ':LE}(e:cZ xs vs ρ=some ρ'):(xs=[]∧vs=[]∧ρ=ρ')∨∃p ps v us,xs=p::ps∧vs=v::us∧cZ ps us (upd ρ p v)=some ρ':=by
 cases xs with
 | nil=>cases vs with
  | nil=>exact .inl ⟨rfl,rfl,Option.some.inj e⟩
  | cons _ _=>exact aV e
 | cons p ps=>cases vs with
  | nil=>exact aV e
  | cons v vs=>exact .inr ⟨p,ps,v,vs,rfl,rfl,e⟩
theorem uI {ps:List Str}:∀{vs:List V} {ρ ρ':LE},cZ ps vs ρ=some ρ'→ps.length=vs.length:=by
 induction ps with
 | nil=>
  intro vs ρ ρ' e;rcases dG e with⟨_,rfl,_⟩ | ⟨_,_,_,_,q,_⟩
  ·rfl
  ·cases q
 | cons p ps ih=>
  intro vs ρ ρ' e;rcases dG e with⟨q,_⟩ | ⟨_,_,v,vs,q,rfl,e⟩
  ·cases q
  ·cases q;exact congrArg Nat.succ (ih e)
theorem rT {q:Str}{ps:List Str}:∀{vs:List V} {ρ ρ':LE},q∉ps→cZ ps vs ρ=some ρ'→ρ' q=ρ q:=by
 induction ps with
 | nil=>
  intro vs ρ ρ' _ e;rcases dG e with⟨_,rfl,rfl⟩ | ⟨_,_,_,_,q,_⟩
  ·rfl
  ·cases q
 | cons p ps ih=>
  intro vs ρ ρ' hn e;rcases dG e with⟨q,_⟩ | ⟨_,_,v,vs,z,rfl,e⟩
  ·cases q
  ·cases z;rw[ih (λh=>hn (.tail _ h)) e];unfold upd;rw[if_neg];rintro rfl;exact hn (.head _)
theorem vC {x:V}{xs:List V}(e:c8 x Y=some (xs,Y')):Y=Y'∧(x=.tup xs∨x=.lst xs∨∃n,x=.ref n∧Y[n]?=some (.list xs)):=by
 refine Fl.opq1 x λP hP=>?_;revert e;cases x
 case tup ys=>exact λe=>have q:=aM.mp e;hP _ ⟨q.2,.inl (congrArg V.tup q.1.symm)⟩
 case lst ys=>exact λe=>have q:=aM.mp e;hP _ ⟨q.2,.inr (.inl (congrArg V.lst q.1.symm))⟩
 case ref n=>exact λe=>hP _ ⟨(gW.mp e).2,.inr (.inr ⟨n,rfl,(gW.mp e).1⟩)⟩
 all_goals exact aV
theorem x9 {x:V}{xs:List V}(e:bU x Y=some (xs,Y')):Y=Y'∧(x=.tup xs∨x=.lst xs∨(∃n,x=.ref n∧Y[n]?=some (.list xs))∨∃n:Int,x=.rng n∧xs=(List.range n.toNat).map λ(i:Nat)=>V.int i):=by
 cases x
 case rng n=>obtain⟨rfl,es⟩:=aM.mp (show ret _ Y=_ from e);exact⟨es,.inr (.inr (.inr ⟨n,rfl,rfl⟩))⟩
 case tup n=>exact have q:=vC (show c8 (.tup n) Y=_ from e);⟨q.1,q.2.imp id λq=>q.imp id .inl⟩
 case lst n=>exact have q:=vC (show c8 (.lst n) Y=_ from e);⟨q.1,q.2.imp id λq=>q.imp id .inl⟩
 case ref n=>exact have q:=vC (show c8 (.ref n) Y=_ from e);⟨q.1,q.2.imp id λq=>q.imp id .inl⟩
 all_goals exact aV e
theorem bH8 {a:V}{o:O}{c:Bool}(e:inO a o Y=some (c,Y')):Y=Y'∧((∃xs,o=.list xs∧inL a xs=some c)∨∃es,o=.dict es∧bM a (es.map (·.1))=true∧c=(dM a es).isSome):=by
 cases o
 case list xs=>exact have q:=bB.mp e;⟨q.2,.inl ⟨xs,rfl,q.1⟩⟩
 case dict es=>
  obtain⟨_,_,h1,h2⟩:=aG.mp (show(aB (dD (bM a (es.map (·.1)))) λ_=>ret (dM a es).isSome) Y=_ from e);obtain⟨ko,rfl⟩:=aY.mp h1;obtain⟨rfl,q⟩:=aM.mp h2;exact⟨q,.inr ⟨es,rfl,ko,rfl⟩⟩
 all_goals exact aV e
theorem bH7 {a y:V}{c:Bool}(e:inV a y Y=some (c,Y')):(Y=Y'∧∃xs,(y=.tup xs∨y=.lst xs)∧inL a xs=some c)∨∃n o,y=.ref n∧Y[n]?=some o∧inO a o Y=some (c,Y'):=by
 refine Fl.opq1 y λP hP=>?_;revert e;cases y
 case tup xs=>exact λe=>have q:=bB.mp e;hP _ (.inl ⟨q.2,xs,.inl rfl,q.1⟩)
 case lst xs=>exact λe=>have q:=bB.mp e;hP _ (.inl ⟨q.2,xs,.inr rfl,q.1⟩)
 case ref n=>
  intro e;obtain⟨o,_,h1,h2⟩:=aG.mp (show(aB (yY n) λo=>inO a o) Y=_ from e);obtain⟨g,rfl⟩:=jJ.mp h1;exact hP _ (.inr ⟨n,o,rfl,g,h2⟩)
 all_goals exact aV
theorem bk8 {k z:V}{o:O}(e:aO5 k o Y=some (z,Y')):Y=Y'∧((∃xs,o=.list xs∧(cA k).bind (fL xs)=some z)∨∃es,o=.dict es∧bM k (es.map (·.1))=true∧dM k es=some z):=by
 cases o
 case list xs=>exact have q:=bB.mp e;⟨q.2,.inl ⟨xs,rfl,q.1⟩⟩
 case dict es=>
  obtain⟨_,_,h1,h2⟩:=aG.mp (show(aB (dD (bM k (es.map (·.1)))) λ_=>bL (dM k es)) Y=_ from e);obtain⟨ko,rfl⟩:=aY.mp h1;exact have q:=bB.mp h2;⟨q.2,.inr ⟨es,rfl,ko,q.1⟩⟩
 all_goals exact aV e
theorem aK8 {hi:Int}{x z:V}(e:iA hi x Y=some (z,Y')):Y=Y'∧((∃xs,x=.tup xs∧hi=-1∧(!xs.isEmpty)=true∧z=.tup xs.dropLast)∨∃xs,x=.lst xs∧0≤hi∧z=.lst (xs.take hi.toNat)):=by
 refine Fl.opq1 x λP hP=>?_;revert e;cases x
 case tup xs=>
  intro e;obtain⟨_,_,h1,h2⟩:=aG.mp (show(aB (dD (decide (hi=-1)&&!xs.isEmpty)) λ_=>ret (V.tup xs.dropLast)) Y=_ from e);have c:=zB (aY.mp h1).1;have q:=aM.mp h2;exact hP _ ⟨(aY.mp h1).2.trans q.2,.inl ⟨xs,rfl,zD c.1,c.2,q.1⟩⟩
 case lst xs=>
  intro e;obtain⟨_,_,h1,h2⟩:=aG.mp (show(aB (dD (decide (0≤hi))) λ_=>ret (V.lst (xs.take hi.toNat))) Y=_ from e);have q:=aM.mp h2;exact hP _ ⟨(aY.mp h1).2.trans q.2,.inr ⟨xs,rfl,zD (aY.mp h1).1,q.1⟩⟩
 all_goals exact aV
theorem aq0 {x:V}{bs:List Bool}(e:u6 x Y=some (bs,Y')):∃xs,x=.lst xs∧iZ xs=some bs∧Y=Y':=by
 cases x
 case lst xs=>exact⟨xs,rfl,bB.mp e⟩
 all_goals exact aV e
theorem aU5 {x z:V}(e:aU6 x Y=some (z,Y')):∃n:Int,x=.int n∧(0≤n∧n < 1000)∧z=.rng n∧Y=Y':=by
 cases x
 case int n=>
  obtain⟨_,_,h1,h2⟩:=aG.mp (show(aB (dD (decide (0≤n)&&decide (n < 1000))) λ_=>ret (V.rng n)) Y=_ from e);obtain⟨c,rfl⟩:=aY.mp h1;have c:=zB c;exact⟨n,rfl,⟨zD c.1,zD c.2⟩,aM.mp h2⟩
 all_goals exact aV e
theorem aT6 {x z:V}(e:bp7 x Y=some (z,Y')):∃xs,x=.lst xs∧z=.tup xs∧Y=Y':=by
 cases x
 case lst xs=>exact⟨xs,rfl,aM.mp e⟩
 all_goals exact aV e
theorem ax4 {x:V}{xs:List V}(e:yL x Y=some (xs,Y')):(x=.tup xs∨x=.lst xs)∧Y=Y':=by
 cases x
 case tup ys=>obtain⟨rfl,q⟩:=aM.mp (show ret ys Y=_ from e);exact⟨.inl rfl,q⟩
 case lst ys=>obtain⟨rfl,q⟩:=aM.mp (show ret ys Y=_ from e);exact⟨.inr rfl,q⟩
 all_goals exact aV e
theorem bj3 {x:Str}{o:O}{k:MK}(e:aA1 x o Y=some (k,Y')):Y=Y'∧((∃xs,o=.list xs∧(x=S "append"∨x=S "extend"∨x=S "reverse"∨x=S "pop")∧k=.li)∨(∃es,o=.dict es∧x=S "get"∧k=.di)∨∃c fs,o=.inst c fs∧(jW x fs).isNone=true∧(rJ c x).map (.py c)=some k):=by
 refine Fl.opq1 o λP hP=>?_;revert e;cases o
 case list xs=>
  intro e;obtain⟨_,_,h1,h2⟩:=aG.mp (show(aB (dD (decide (x=S "append"∨x=S "extend"∨x=S "reverse"∨x=S "pop"))) λ_=>ret MK.li) Y=_ from e);have q:=aM.mp h2;exact hP _ ⟨(aY.mp h1).2.trans q.2,.inl ⟨xs,rfl,zD (aY.mp h1).1,q.1⟩⟩
 case dict es=>
  intro e;obtain⟨_,_,h1,h2⟩:=aG.mp (show(aB (dD (decide (x=S "get"))) λ_=>ret MK.di) Y=_ from e);have q:=aM.mp h2;exact hP _ ⟨(aY.mp h1).2.trans q.2,.inr (.inl ⟨es,rfl,zD (aY.mp h1).1,q.1⟩)⟩
 case inst c fs=>
  intro e;obtain⟨_,_,h1,h2⟩:=aG.mp (show(aB (dD (jW x fs).isNone) λ_=>bL ((rJ c x).map (MK.py c))) Y=_ from e);have p:=bB.mp h2;exact hP _ ⟨(aY.mp h1).2.trans p.2,.inr (.inr ⟨c,fs,rfl,(aY.mp h1).1,p.1⟩)⟩
 all_goals exact aV
theorem br3 {xs:List V}(S:Sta X w hZ s.heap μ Y)(r:cD w s.heap μ (Fz X μ Y) x v)(e:c8 x Y=some (xs,Y')) :
  Y'=Y∧xs.length≤200000∧∃a vs n,v=.ref a∧bC w s.heap μ (Fz X μ Y) xs vs∧(s.heap.get? a=some (j9 vs n)∨s.heap.get? a=some (p9 vs n)):=by
 obtain⟨es,q⟩:=vC e;clear e;subst es;rcases q with rfl | rfl | ⟨n,rfl,e2⟩
 ·obtain⟨a,vs,n,rfl,_,g,rl,z⟩:=r;exact⟨rfl,z,a,vs,n,rfl,rl,.inr g⟩
 ·obtain⟨a,vs,n,rfl,_,g,rl,z⟩:=r;exact⟨rfl,z,a,vs,n,rfl,rl,.inl g⟩
 ·obtain⟨l,e1,rfl⟩:=r;obtain⟨vs,n,g,_,rl,z⟩:=S.obj _ _ _ e1 e2;exact⟨rfl,z,_,vs,n,rfl,rl,.inl g⟩
theorem ae0 {b:Bool}(e:aS x Y=some (b,Y')):(∃c,x=.bool c∧b=c∧Y=Y')∨(∃i,x=.int i∧b=decide (i≠0)∧Y=Y')∨(∃xs,x=.lst xs∧b=(!xs.isEmpty)∧Y=Y')∨∃n xs,x=.ref n∧Y[n]?=some (.list xs)∧b=(!xs.isEmpty)∧Y=Y':=by
 refine Fl.opq1 x λP hP=>?_;revert e;cases x
 case bool c=>exact λe=>hP _ (.inl ⟨c,rfl,aM.mp e⟩)
 case int i=>exact λe=>hP _ (.inr (.inl ⟨i,rfl,aM.mp e⟩))
 case lst xs=>exact λe=>hP _ (.inr (.inr (.inl ⟨xs,rfl,aM.mp e⟩)))
 case ref n=>
  intro e;obtain⟨xs,Y₁,e1,e2⟩:=aG.mp (show aB (rdL n) (λxs=>ret (!xs.isEmpty)) Y=some (b,Y')from e);obtain⟨e3,rfl⟩:=gW.mp e1;exact hP _ (.inr (.inr (.inr ⟨n,xs,rfl,e3,aM.mp e2⟩)))
 all_goals exact aV
theorem uK {b:Bool}(e:aS x Y=some (b,Y')):Y'=Y:=by
 rcases ae0 e with⟨_,_,_,rfl⟩ | ⟨_,_,_,rfl⟩ | ⟨_,_,_,rfl⟩ | ⟨_,_,_,_,_,rfl⟩<;>rfl
theorem xE {b:Bool}{Q:Bool→Shared→Prop}(S:Sta X w hZ s.heap μ Y)(r:cD w s.heap μ (Fz X μ Y) x v)(e:aS x Y=some (b,Y'))(h:∀t',Q b { s with toks:=t' }) :
  wpAny (model prog w) A (truthy v) Q E s:=by
 have lsts:∀{a vs n xs},s.heap.get? a=some (j9 vs n)→bC w s.heap μ (Fz X μ Y) xs vs→xs.length≤200000→b=(!xs.isEmpty)→wpAny (model prog w) A (truthy (.ref a)) Q E s:=by
  intro a vs n xs g rl z hb;have hl:=bO rl;refine wpAny_truthy_list (kD g) (by rw[List.size_toArray];lia) ?_;have:(!vs.toArray.isEmpty)=b:=by
   rw[hb];cases vs<;>cases xs<;>first | rfl | simp at hl
  rw[this];exact h _
 rcases ae0 e with⟨c,rfl,rfl,rfl⟩ | ⟨i,rfl,rfl,rfl⟩ | ⟨xs,rfl,rfl,rfl⟩ | ⟨n,xs,rfl,e2,rfl,rfl⟩
 ·subst r;exact wpAny_truthy_bool (h s.toks)
 ·obtain⟨t,rfl⟩:=r;refine PyProof.Rows.truthy_int ?_;have:(i != 0)=decide (i≠0):=by by_cases q:i=0<;>simp[q]
  rw[this];exact h s.toks
 ·obtain⟨a,vs,n,rfl,_,g,rl,z⟩:=r;exact lsts g rl z rfl
 ·obtain⟨l,e1,rfl⟩:=r;obtain⟨vs,n,g,_,rl,z⟩:=S.obj _ _ _ e1 e2;exact lsts g rl z rfl
theorem bR2 {a b:Int}(h:a.natAbs < 1000):IntMulOk a b:=.of_left (by
 unfold Builtin.Int.intBits;have:a.natAbs.log2 < 10:=by
  by_cases q:a.natAbs=0
  ·rw[q];decide
  ·exact(Nat.log2_lt q).mpr (by lia)
 split<;>lia)
theorem sI {f:Int→Int→M V}{p:V×H}:aO7 f x y Y=some p↔∃a b,x=.int a∧y=.int b∧f a b Y=some p:=by
 constructor
 ·intro e;refine Fl.opq2 x y λP hP=>?_;revert e;cases x
  case int a=>
   cases y
   case int b=>exact λe=>hP _ _ ⟨a,b,rfl,rfl,e⟩
   all_goals exact aV
  all_goals exact aV
 ·rintro⟨a,b,rfl,rfl,e⟩;exact e
theorem bC0 {p:V×H}(e:bV4 x y Y=some p):(∃a b,x=.int a∧y=.int b∧ret (.int (a+b)) Y=some p)∨∃a b,x=.tup a∧y=.tup b∧(if a.length+b.length≤1000 then ret (.tup (a++b))else fail) Y=some p:=by
 refine Fl.opq2 x y λP hP=>?_;revert e;cases x
 case int a=>cases y<;>first | exact λe=>hP _ _ (.inl ⟨_,_,rfl,rfl,e⟩) | exact aV
 case tup a=>cases y<;>first | exact λe=>hP _ _ (.inr ⟨_,_,rfl,rfl,e⟩) | exact aV
 all_goals exact aV
theorem bB0 {op:Operator}{p:V×H}(e:i8 op x y Y=some p):(op=.Add∧bV4 x y Y=some p)∨(op=.Sub∧∃a b,x=.int a∧y=.int b∧ret (V.int (a - b)) Y=some p)∨(op=.Mult∧∃a b,x=.int a∧y=.int b∧(if a.natAbs < 1000∧b.natAbs < 1000 then ret (.int (a * b))else fail) Y=some p)∨
  (op=.Mod∧∃a b,x=.int a∧y=.int b∧(if 0 < b then ret (.int (a % b))else fail) Y=some p)∨(op=.FloorDiv∧∃a b,x=.int a∧y=.int b∧(if 0 < b∧b < 1000 then ret (.int (a / b))else fail) Y=some p):=by
 cases op
 case Add=>exact .inl ⟨rfl,e⟩
 case Sub=>exact .inr (.inl ⟨rfl,sI.mp e⟩)
 case Mult=>exact .inr (.inr (.inl ⟨rfl,sI.mp e⟩))
 case Mod=>exact .inr (.inr (.inr (.inl ⟨rfl,sI.mp e⟩)))
 case FloorDiv=>exact .inr (.inr (.inr (.inr ⟨rfl,sI.mp e⟩)))
 all_goals exact aV e
theorem bK7 {op:Operator}(S:Sta X w hZ s.heap μ Y)(r:cD w s.heap μ (Fz X μ Y) x u)(q:cD w s.heap μ (Fz X μ Y) y v)(e:i8 op x y Y=some (z,Y'))
  (h:cU X w hZ s μ Y Y' z Q):wpAny (model prog w) A (binaryOp op u v) Q E s:=by
 have e0:=bB0 e;clear e;rcases e0 with⟨rfl,e⟩ | ⟨rfl,e⟩ | ⟨rfl,e⟩ | ⟨rfl,e⟩ | ⟨rfl,e⟩
 ·have e1:=bC0 e
  clear e;rcases e1 with⟨a,b,rfl,rfl,e⟩ | ⟨a,b,rfl,rfl,e⟩
  ·obtain⟨t,rfl⟩:=r;obtain⟨t',rfl⟩:=q;obtain⟨rfl,rfl⟩:=aM.mp e;exact PyProof.Rows.add_int (h _ _ _ _ (Stp.same S) (gU ..))
  ·split at e
   ·rename_i hz;rw[aM]at e;obtain⟨rfl,rfl⟩:=e;have r0:=r;have q0:=q
    obtain⟨t,vs,n,rfl,f1,g1,l1,z1⟩:=r;obtain⟨t',us,n',rfl,f2,g2,l2,z2⟩:=q;have len1:=bO l1;have len2:=bO l2;by_cases hv:vs=[]
    ·refine concat_meets ⟨_,g1,rfl⟩ ⟨_,g2,rfl⟩ noFill_tuple_add seq_tuple_add PySem.F.slot_tuple_add PySem.F.entry_tuple_add (PySem.F.args_tuple_add_2 _ _)
      (tuple_addW0 t t' vs.toArray us.toArray n n' _ _ _ _ (by simp[hv])) ⟨g1,g2,?_⟩
     subst hv;cases a with
     | nil=>exact h _ _ _ _ (Stp.same S) q0
     | cons _ _=>simp at len1
    ·by_cases hw:us=[]
     ·refine concat_meets ⟨_,g1,rfl⟩ ⟨_,g2,rfl⟩ noFill_tuple_add seq_tuple_add PySem.F.slot_tuple_add PySem.F.entry_tuple_add (PySem.F.args_tuple_add_2 _ _)
       (tuple_addW1 t t' vs.toArray us.toArray n n' _ _ _ _ (by simpa using hv) (by simp[hw])) ⟨g1,g2,?_⟩
      subst hw;cases b with
      | nil=>rw[List.append_nil]at h;exact h _ _ _ _ (Stp.same S) r0
      | cons _ _=>simp at len2
     ·refine concat_meets ⟨_,g1,rfl⟩ ⟨_,g2,rfl⟩ noFill_tuple_add seq_tuple_add PySem.F.slot_tuple_add PySem.F.entry_tuple_add (PySem.F.args_tuple_add_2 _ _)
       (tuple_addW2 t t' vs.toArray us.toArray n n' _ _ _ _ (by simpa using hv) (by simpa using hw) (by rw[List.size_toArray,List.size_toArray,aZ];lia)) ⟨g1,g2,?_⟩
      have k:=Stp.tup S (eX l1 l2) (by simp;lia);have e:(vs++us).toArray=vs.toArray++us.toArray:=by simp
      have k1:=k.1;have k2:=k.2
      simp only[p9,e]at k1 k2;exact h _ _ _ _ k1 k2
   ·exact aV e
 ·obtain⟨a,b,rfl,rfl,e⟩:=e;obtain⟨t,rfl⟩:=r;obtain⟨t',rfl⟩:=q;rw[aM]at e;obtain⟨rfl,rfl⟩:=e;exact PyProof.Rows.sub_int (h _ _ _ _ (Stp.same S) (gU ..))
 ·obtain⟨a,b,rfl,rfl,e⟩:=e;obtain⟨t,rfl⟩:=r;obtain⟨t',rfl⟩:=q;split at e
  ·rename_i c;rw[aM]at e;obtain⟨rfl,rfl⟩:=e;exact PyProof.Rows.mul_int (h _ _ _ _ (Stp.same S) (gU ..)) (bR2 c.1)
  ·exact aV e
 ·obtain⟨a,b,rfl,rfl,e⟩:=e;obtain⟨t,rfl⟩:=r;obtain⟨t',rfl⟩:=q;split at e
  ·rename_i c;rw[aM]at e;obtain⟨rfl,rfl⟩:=e;refine PyProof.Rows.mod_int' (by lia) ?_;rw[Int.fmod_eq_emod_of_nonneg _ (by lia)];exact(h _ _ _ _ (Stp.same S) (gU ..))
  ·exact aV e
 ·obtain⟨a,b,rfl,rfl,e⟩:=e;obtain⟨t,rfl⟩:=r;obtain⟨t',rfl⟩:=q;split at e
  ·rename_i c;rw[aM]at e;obtain⟨rfl,rfl⟩:=e;refine PyProof.Rows.floordiv_int (by lia) ?_ (.inl (PyProof.noPylong_small (by lia)));rw[Int.fdiv_eq_ediv_of_nonneg _ (by lia)];exact(h _ _ _ _ (Stp.same S) (gU ..))
  ·exact aV e
end
section
variable {X:Addr→Prop}{w:World}{hZ:Heap}{A:Around}{E:Value→Shared→Prop}{s:Shared}{μ:List Loc}{Y Y':H}{x y z:V}{u v:Value}{Q:Value→Shared→Prop}{K:Frag}
theorem vD {u a b c:Nat}(h:b≤9)(hu:u+20 < c):u+1+min a b < c:=Nat.lt_of_le_of_lt (zL (Nat.add_le_add_left (zL (Nat.min_le_right _ _) h) _) (show u+10≤u+20 from Nat.add_le_add_left (by decide) u)) hu
theorem bT2 {b:Bool}(hu:A.units+20 < cLine)(r:cD w s.heap μ (Fz X μ Y) x u)(q:cD w s.heap μ (Fz X μ Y) y v)(e:eqv x y=some b)(h:Q (.bool b) s) :
  wpAny (model prog w) A (compareOp .Eq u v) Q E s:=by
 unfold eqv at e;split at e
 ·rename_i c;simp only[Bool.and_eq_true]at c;cases e;obtain⟨as,ra⟩:=nO 9 x u c.1 r;obtain⟨bs,rb⟩:=nO 9 y v c.2 q;have ca:=lE 9 x c.1;have cb:=lE 9 y c.2;exact SeqAt.compareEq_reads ra rb ca.1 cb.1 (by lia) h
 ·cases e
theorem bQ3 {b:Bool}(hu:A.units+20 < cLine)(r:cD w s.heap μ (Fz X μ Y) x u)(q:cD w s.heap μ (Fz X μ Y) y v)(e:eqv x y=some b)(h:Q (.bool (!b)) s) :
  wpAny (model prog w) A (compareOp .NotEq u v) Q E s:=by
 unfold eqv at e;split at e
 ·rename_i c;simp only[Bool.and_eq_true]at c;cases e;obtain⟨as,ra⟩:=nO 9 x u c.1 r;obtain⟨bs,rb⟩:=nO 9 y v c.2 q;have ca:=lE 9 x c.1;have cb:=lE 9 y c.2;exact SeqAt.compareNe_reads ra rb ca.1 cb.1 (by lia) h
 ·cases e
theorem bF5 (xs:List V)(f:PyData→Bool):(pdL xs).any f=xs.any λy=>f (pd y):=by
 induction xs with
 | nil=>rfl
 | cons x r ih=>rw[List.any_cons,←ih];rfl
theorem yJ {b neg:Bool}{xs:List V}{a:Addr}{vs:List Value}{n:Nat}(hu:A.units+20 < cLine)(r:cD w s.heap μ (Fz X μ Y) x u)(l:bC w s.heap μ (Fz X μ Y) xs vs)
  (g:s.heap.get? a=some (j9 vs n)∨s.heap.get? a=some (p9 vs n)) (e:inL x xs=some b) (h:Q (.bool (if neg then !b else b)) s) :
  wpAny (model prog w) A (compareOp (if neg then .NotIn else .In) u (.ref a)) Q E s:=by
 unfold inL at e;split at e
 ·rename_i c;simp only[Bool.and_eq_true]at c;cases e;obtain⟨as,ra⟩:=nO 9 x u c.1 r;obtain⟨bs,rb⟩:=bh7 9 xs vs c.2 l;have ca:=lE 9 x c.1;have cb:=aZ4 9 xs c.2;rw[←bF5 xs (λy=>y.eqv (pd x))]at h;rcases g with g | g
  ·have rl:Reads s.heap (.ref a) (.list (pdL xs)) (a::bs):=.list g rfl rfl rb
   cases neg
   ·exact SeqAt.in_list_reads rl ra cb.1 ca.1 (vD ca.2 hu) h
   ·exact SeqAt.notIn_list_reads rl ra cb.1 ca.1 (vD ca.2 hu) h
  ·have rl:Reads s.heap (.ref a) (.tuple (pdL xs)) bs:=.tuple g rfl rfl rb
   cases neg
   ·exact SeqAt.in_tuple_reads rl ra cb.1 ca.1 (vD ca.2 hu) h
   ·exact SeqAt.notIn_tuple_reads rl ra cb.1 ca.1 (vD ca.2 hu) h
 ·cases e
theorem an3 (r:cD w s.heap μ (Fz X μ Y) x u):(u==Value.none)=isNone x:=by
 cases x
 ·subst r;rfl
 ·subst r;rfl
 ·obtain⟨t,rfl⟩:=r;rfl
 ·obtain⟨t,rfl⟩:=r;rfl
 ·obtain⟨a,vs,n,rfl,_⟩:=r;rfl
 ·obtain⟨a,vs,n,rfl,_⟩:=r;rfl
 ·obtain⟨a,vs,n,rfl,_⟩:=r;rfl
 ·obtain⟨l,_,rfl⟩:=r;rfl
 ·subst r;rfl
 ·subst r;rfl
 ·subst r;rfl
 ·subst r;rfl
 ·obtain⟨a,_,_,_,rfl,_⟩:=r;rfl
theorem yG (e:isNone x=true):x=.none:=by
 cases x
 case none=>rfl
 all_goals exact oN e
theorem bi0 {i:Int}{n k:Nat}(e:az4 i n=some k):seqIndex? i n=some k∧k < n∧(0≤i→i.toNat=k)∧(i < 0→(i+n).toNat=k∧-(n:Int)≤i)∧i < n∧-(n:Int)≤i:=by
 unfold az4 at e;unfold seqIndex?;by_cases c:0≤i
 ·have c':¬i < 0:=Int.not_lt.mpr c
  by_cases d:i < (n:Int)
  ·simp only[c,d,if_true,Option.some.injEq]at e;subst e;simp only[c,c',d,if_false,decide_true,Bool.and_self,if_true];exact⟨trivial,(Int.toNat_lt c).mpr d,λ_=>trivial,λh=>h.elim,trivial,Int.le_trans (Int.neg_nonpos_of_nonneg (Int.natCast_nonneg n)) c⟩
  ·simp[c,d]at e
 ·have c':i < 0:=Int.not_le.mp c
  by_cases d:0≤i+(n:Int)
  ·simp only[c,d,if_false,if_true,Option.some.injEq]at e;subst e;have d':i+(n:Int) < n:=by lia
   simp only[c,c',d,d',if_true,decide_true,Bool.and_self];have d2:-(n:Int)≤i:=by lia
   exact⟨trivial,(Int.toNat_lt d).mpr d',λh=>h.elim,λ_=>⟨trivial,d2⟩,Int.lt_of_lt_of_le c' (Int.natCast_nonneg n),d2⟩
  ·simp[c,d]at e
theorem aO4 {xs:List V}{a:Addr}{vs:List Value}{n:Nat}{i:Int}{t:Tok}(S:Sta X w hZ s.heap μ Y)(l:bC w s.heap μ (Fz X μ Y) xs vs)(hz:xs.length≤200000)
  (g:s.heap.get? a=some (j9 vs n)∨s.heap.get? a=some (p9 vs n)) (e:fL xs i=some z) (h:cU X w hZ s μ Y Y z Q) :
  wpAny (model prog w) A (getItem (.ref a) (.int i t)) Q E s:=by
 unfold fL at e;obtain⟨k,hk,hx⟩:=zO e;obtain⟨p1,p2,p3,p4,p5,p6⟩:=bi0 hk;have hi:i < 2 ^ 63:=Int.lt_of_lt_of_le p5 (Int.le_trans (Int.ofNat_le.mpr hz) (by decide));have lo:-2 ^ 63≤i:=Int.le_trans (Int.le_trans (by decide) (Int.neg_le_neg (Int.ofNat_le.mpr hz))) p6;obtain⟨v,hv,rv⟩:=aL2 l hx;have hl:=bO l;have fin:Q v s:=h v s.heap s.toks μ (Stp.same S) rv;rcases g with g | g
 ·by_cases c:0≤i
  ·exact wpAny_getItem_list (kD g) c hi (by rw[p3 c];simpa using hv) fin
  ·exact wpAny_getItem_list_neg (kD g) (Int.not_le.mp c) (by rw[List.size_toArray,←hl];exact p6) lo
    (by rw[List.size_toArray,←hl,(p4 (Int.not_le.mp c)).1];simpa using hv) fin
 ·exact PyProof.Rows.getItem_tuple (uW g) lo hi (by rw[List.size_toArray,←hl];exact p1) (by simpa using hv) fin
theorem aS8 (n:Nat)(hn:1≤n):Builtin.Slice.sliceAdjust Option.none (some (-1)) 1 (n:Int)=((0:Int),((n - 1:Nat):Int)):=by
 unfold Builtin.Slice.sliceAdjust;have h1:¬((1:Int) < 0):=by lia
 have h2:((-1:Int) < 0):=by lia
 simp only[h1,h2,if_false,if_true];congr 1;lia
theorem aL6 (n:Nat):Builtin.Slice.slicePlaces (0:Int) (n:Int) 1=n:=by
 unfold Builtin.Slice.slicePlaces;have h1:(1:Int) > 0:=by lia
 simp only[h1,if_true,Int.ediv_one];split<;>lia
theorem af6:∀(xs:List Value) (m:Nat),(List.range m).filterMap (λk=>xs[k]?)=xs.take m
 | [],m=>by simp
 | x::r,0=>by simp
 | x::r,m+1=>by
  rw[List.range_succ_eq_map,List.filterMap_cons];simp only[List.getElem?_cons_zero,List.take_succ_cons,List.filterMap_map];rw[←af6 r m];rfl
theorem bi1 (xs:List Value):((List.range (xs.length - 1)).filterMap λ(k:Nat)=>xs.toArray[((0:Int)+(k:Int) * 1).toNat]?).toArray=xs.dropLast.toArray:=by
 have e:(λ(k:Nat)=>xs.toArray[((0:Int)+(k:Int) * 1).toNat]?)=λk=>xs[k]?:=by
  funext k;have:((0:Int)+(k:Int) * 1).toNat=k:=by lia
  rw[this];simp
 rw[e,List.dropLast_eq_take,af6]
theorem qB {t sl:Addr}{vs:List Value}{m:Nat}{u:Tok}{Q:Value→Shared→Prop}(ht:s.heap.get? t=some (p9 vs m))(hs:s.heap.IsSliceOf sl .none (.int (-1) u) .none)(hn:vs≠[])(hz:vs.length≤200000)
  (h:Q (.ref s.heap.objs.size) { s with heap:=s.heap.push (p9 vs.dropLast 0) }):wpAny (model prog w) A (getItem (.ref t) (.ref sl)) Q E s:=by
 have hd:sizeOk (.seq vs.dropLast.toArray):=by
  show vs.dropLast.toArray.size≤sizeLine;rw[List.size_toArray,List.length_dropLast,aZ];lia
 have hp:1≤vs.length:=by cases vs with | nil=>exact absurd rfl hn | cons _ _=>simp
 have ht:=uW ht;obtain⟨os,hos,hcs,hds⟩:=id hs;have hTs:s.TypeIs (.ref sl) "slice":=⟨os,hos,hcs⟩;have hno:¬(((0:Int)==0&&(1:Int)==1&&(vs.length - 1)==vs.toArray.size)=true):=by
  have:((vs.length - 1)==vs.toArray.size)=false:=by rw[beq_eq_false_iff_ne,List.size_toArray];lia
  rw[this];simp
 unfold getItem;refine wpAny_holding ?_;refine zW (wpAny_sequenceKey ht.typeIs (by decide) ?_);refine zW (wpAny_callSpecial?_slot (name:=Str.ofString "__getitem__") ht.typeIs slot_tuple_getitem
  (wpAny_call_entry slot_tuple_getitem ht.typeIs entry_tuple_getitem ?_ (args_tuple_getitem _ _)))
 show wpAny _ _ (Builtin.Tuple.tupleItemsOf (.ref t) >>= _) _ _ s;refine zW (tupleItemsOf_ ht ?_);refine zW (wpAny_typeOf hTs ?_);rw[if_pos (by decide)];refine zW ?_
 ·unfold Builtin.Slice.sliceApplied Builtin.Slice.sliceFields;refine zW (zW (wpAny_field hos hds (x:=.none) rfl (zW (wpAny_field hos hds (x:=.int (-1) u) rfl (zW (wpAny_field hos hds (x:=.none) rfl (zP ?_)))))));refine zW (slicePart_none ?_);show wpAny _ _ (if((1:Int)==0)=true then _ else _) _ _ s;rw[if_neg (by decide)];refine zW (slicePart_none (zW (slicePart_int (zW (zP ?_)))));show wpAny _ _ (match Builtin.Slice.sliceAdjust Option.none (some (-1)) 1 (vs.toArray.size:Int)with | (lo,hi)=>pure (lo,(1:Int),Builtin.Slice.slicePlaces lo hi 1)) _ _ s;rw[List.size_toArray,aS8 vs.length hp];show wpAny _ _ (pure ((0:Int),(1:Int),Builtin.Slice.slicePlaces (0:Int) ((vs.length - 1:Nat):Int) 1)) _ _ s;rw[aL6];refine zP ?_;show wpAny _ _ (if((0:Int)==0&&(1:Int)==1&&(vs.length - 1)==vs.toArray.size)=true then _ else _) _ _ s;rw[if_neg hno,bi1 vs];exact zW (m:=Builtin.Tuple.tupleExact _) (wpAny_newObj_type (zP ⟨_,rfl,zP h⟩) hd)
end
mutual
def fE (h:Heap):V→Value→Prop
 | .int i,v=>∃t,v=.int i t
 | .str s,v=>∃t,v=.str s t
 | .tup xs,v=>∃a vs n,v=.ref a∧h.get? a=some (p9 vs n)∧i7 h xs vs
 | _,_=>False
def i7 (h:Heap):List V→List Value→Prop
 | [],vs=>vs=[]
 | x::xs,vs=>∃v r,vs=v::r∧fE h x v∧i7 h xs r
end
mutual
def yN:V→Nat
 | .tup xs=>ap0 xs+1
 | _=>1
def ap0:List V→Nat
 | []=>0
 | x::r=>yN x+ap0 r
end
section
variable {X:Addr→Prop}{w:World}{h h':Heap}{μ:List Loc}{F:Addr→Prop}{A:Around}{E:Value→Shared→Prop}{s:Shared}
theorem bk3 {n:Nat}{xs:List V}(d:wP n xs=true):∀x∈xs,pK n x=true:=by
 induction xs with
 | nil=>exact λx h=>nomatch h
 | cons y xs ih=>
  have d:=zB d;exact λx h=>(List.mem_cons.mp h).elim (λe=>e▸d.1) (ih d.2 x)
theorem wO {n:Nat}{x:V}(d:pK n x=true):(∃i,x=.int i)∨(∃s,x=.str s∧PyData.strOk s=true)∨∃m xs,n=m+1∧x=.tup xs∧wP m xs=true:=by
 cases x
 case int i=>exact .inl ⟨i,rfl⟩
 case str s=>exact .inr (.inl ⟨s,rfl,d⟩)
 case tup xs=>cases n with
  | zero=>exact oN d
  | succ m=>exact .inr (.inr ⟨m,xs,rfl,rfl,d⟩)
 all_goals exact oN d
theorem mR {P:Nat→V→Prop}(hi:∀n i,P n (.int i))(hs:∀n s,PyData.strOk s=true→P n (.str s))(ht:∀n xs,wP n xs=true→(∀x∈xs,P n x)→P (n+1) (.tup xs))(n:Nat):∀x,pK n x=true→P n x:=by
 induction n using Nat.strongRecOn with | _ n ih=>
 intro x d;rcases wO d with⟨i,rfl⟩ | ⟨s,rfl,k⟩ | ⟨m,xs,rfl,rfl,d'⟩
 ·exact hi n i
 ·exact hs n s k
 ·exact ht m xs d' λx h=>ih m (Nat.lt_succ_self m) x (bk3 d' x h)
theorem i7.of {xs:List V}(H:∀x∈xs,∀v,cD w h μ F x v→fE h x v):∀vs,bC w h μ F xs vs→i7 h xs vs:=by
 induction xs with
 | nil=>exact λ_ r=>r
 | cons x xs ih=>
  intro vs r;obtain⟨v,s,rfl,a,b⟩:=r;show ∃_,_;exact⟨v,s,rfl,H x (.head _) v a,ih (λy h=>H y (.tail _ h)) s b⟩
theorem fE.of (n:Nat)(x:V)(v:Value)(d:pK n x=true):cD w h μ F x v→fE h x v:=by
 refine mR (P:=λ_ x=>∀v,cD w h μ F x v→fE h x v) (λ_ _ _ r=>r) (λ_ _ _ _ r=>r) (λn xs _ H v r=>?_) n x d v;obtain⟨a,vs,k,rfl,_,g,l,_⟩:=r;show ∃_,_;exact⟨a,vs,k,rfl,g,i7.of H vs l⟩
theorem i7.keep {xs:List V}(H:∀x∈xs,∀v,fE h x v→fE h' x v):∀vs,i7 h xs vs→i7 h' xs vs:=by
 induction xs with
 | nil=>exact λ_ r=>r
 | cons x xs ih=>
  intro vs r;obtain⟨v,s,rfl,a,b⟩:=r;show ∃_,_;exact⟨v,s,rfl,H x (.head _) v a,ih (λy h=>H y (.tail _ h)) s b⟩
theorem fE.keep {n:Nat}(hk:∀a vs n,h.get? a=some (p9 vs n)→h'.get? a=some (p9 vs n))(x:V)(d:pK n x=true)(v:Value):fE h x v→fE h' x v:=by
 refine mR (P:=λ_ x=>∀v,fE h x v→fE h' x v) (λ_ _ _ r=>r) (λ_ _ _ _ r=>r) (λn xs _ H v r=>?_) n x d v;obtain⟨a,vs,k,rfl,g,l⟩:=r;show ∃_,_;exact⟨a,vs,k,rfl,hk _ _ _ g,i7.keep H vs l⟩
theorem bu8 {y:V}{i:Int}{t:Tok}(q:fE h y (.int i t)):y=.int i:=by
 cases y
 case int j=>obtain⟨_,e⟩:=q;cases e;rfl
 case str j=>obtain⟨_,e⟩:=q;cases e
 case tup j=>obtain⟨_,_,_,e,_⟩:=q;cases e
 all_goals exact False.elim q
theorem bu6 {y:V}{i:Str}{t:Tok}(q:fE h y (.str i t)):y=.str i:=by
 cases y
 case int j=>obtain⟨_,e⟩:=q;cases e
 case str j=>obtain⟨_,e⟩:=q;cases e;rfl
 case tup j=>obtain⟨_,_,_,e,_⟩:=q;cases e
 all_goals exact False.elim q
theorem bu7 {y:V}{a:Addr}(q:fE h y (.ref a)):∃ys vs n,y=.tup ys∧h.get? a=some (p9 vs n)∧i7 h ys vs:=by
 cases y
 case int j=>obtain⟨_,e⟩:=q;cases e
 case str j=>obtain⟨_,e⟩:=q;cases e
 case tup j=>obtain⟨_,vs,n,e,g,l⟩:=q;cases e;exact⟨j,vs,n,rfl,g,l⟩
 all_goals exact False.elim q
theorem i7.inj {xs:List V}(H:∀x∈xs,∀y v,fE h x v→fE h y v→x=y):∀ys vs,i7 h xs vs→i7 h ys vs→xs=ys:=by
 induction xs with
 | nil=>
  intro ys vs r q;subst r;cases ys with
  | nil=>rfl
  | cons y t=>obtain⟨_,_,e,_⟩:=q;cases e
 | cons x xs ih=>
  intro ys vs r q;obtain⟨v,s,rfl,a,b⟩:=r;cases ys with
  | nil=>exact(List.cons_ne_nil _ _ q).elim
  | cons y t=>
   obtain⟨v',s',e,a',b'⟩:=q;cases e;rw[H x (.head _) y v a a',ih (λy h=>H y (.tail _ h)) t s b b']
theorem fE.inj {n:Nat}(x y:V)(v:Value)(d:pK n x=true):fE h x v→fE h y v→x=y:=by
 refine mR (P:=λ_ x=>∀y v,fE h x v→fE h y v→x=y) (λ_ i y v r q=>?_) (λ_ i _ y v r q=>?_) (λn xs _ H y v r q=>?_) n x d y v
 ·obtain⟨t,rfl⟩:=r;exact(bu8 q).symm
 ·obtain⟨t,rfl⟩:=r;exact(bu6 q).symm
 ·obtain⟨a,vs,k,rfl,g,l⟩:=r;obtain⟨ys,vs',n',rfl,g',l'⟩:=bu7 q;have e:=Option.some.inj (g.symm.trans g');have e3:vs=vs':=congrArg Array.toList (Data.seq.inj (congrArg Obj.data e)).1;subst e3;rw[i7.inj H ys vs l l']
theorem i7.reads {xs:List V}(H:∀x∈xs,∀v,fE h x v→∃as,Reads h v (pd x) as):∀vs,i7 h xs vs→∃as,ReadsAll h vs (pdL xs) as:=by
 induction xs with
 | nil=>intro vs r;subst r;exact⟨_,.nil⟩
 | cons x xs ih=>
  intro vs r;obtain⟨v,s,rfl,a,b⟩:=r;obtain⟨as,q⟩:=H x (.head _) v a;obtain⟨bs,q'⟩:=ih (λy h=>H y (.tail _ h)) s b;exact⟨as++bs,.cons q q'⟩
theorem fE.reads {n:Nat}(x:V)(v:Value)(d:pK n x=true):fE h x v→∃as,Reads h v (pd x) as:=by
 refine mR (P:=λ_ x=>∀v,fE h x v→∃as,Reads h v (pd x) as) (λ_ i v r=>?_) (λ_ i _ v r=>?_) (λn xs _ H v r=>?_) n x d v
 ·obtain⟨t,rfl⟩:=r;exact⟨_,.int i t⟩
 ·obtain⟨t,rfl⟩:=r;exact⟨_,.str i t⟩
 ·obtain⟨a,vs,k,rfl,g,l⟩:=r;obtain⟨as,q⟩:=i7.reads H vs l;exact⟨as,.tuple g rfl rfl q⟩
theorem w7 {α:Type} [BEq α] [LawfulBEq α] [DecidableEq α] (a b:α):(a==b)=decide (a=b):=by
 rw[Bool.eq_iff_iff];simp
theorem sM {p q:Prop} [Decidable p] [Decidable q] (h:p→q)(h2:q→p):decide p=decide q:=decide_eq_decide.mpr ⟨h,h2⟩
theorem by0 {n m:Nat}{xs:List V}(H:∀x∈xs,∀m y,pK m y=true→PyData.eqv (pd x) (pd y)=decide (x=y)):∀ys:List V,wP m ys=true→PyData.eqvAll (pdL xs) (pdL ys)=decide (xs=ys):=by
 induction xs with
 | nil=>intro ys _;cases ys<;>rfl
 | cons x xs ih=>
  intro ys e;cases ys with
  | nil=>rfl
  | cons y ys=>
   have e:=zB e;show(PyData.eqv (pd x) (pd y)&&PyData.eqvAll (pdL xs) (pdL ys))=_;rw[H x (.head _) m y e.1,ih (λy h=>H y (.tail _ h)) ys e.2,←Bool.decide_and];exact sM (λe=>by rw[e.1,e.2]) λe=>List.cons.inj e
theorem bJ0 (x:V)(n m:Nat)(y:V)(d:pK n x=true):pK m y=true→PyData.eqv (pd x) (pd y)=decide (x=y):=by
 have no:∀{x y:V},x≠y→false=decide (x=y):=λh=>(decide_eq_false h).symm;refine mR (P:=λ_ x=>∀m y,pK m y=true→PyData.eqv (pd x) (pd y)=decide (x=y)) (λ_ i m y e=>?_) (λ_ i _ m y e=>?_) (λn xs _ H m y e=>?_) n x d m y
 ·rcases wO e with⟨j,rfl⟩ | ⟨s,rfl,_⟩ | ⟨m,ys,rfl,rfl,e'⟩
  ·exact(w7 i j).trans (sM (λe=>congrArg V.int e) λe=>V.int.inj e)
  ·exact no nofun
  ·exact no nofun
 ·rcases wO e with⟨j,rfl⟩ | ⟨j,rfl,_⟩ | ⟨m,ys,rfl,rfl,e'⟩
  ·exact no nofun
  ·exact(w7 i j).trans (sM (λe=>congrArg V.str e) λe=>V.str.inj e)
  ·exact no nofun
 ·rcases wO e with⟨j,rfl⟩ | ⟨j,rfl,_⟩ | ⟨m,ys,rfl,rfl,e'⟩
  ·exact no nofun
  ·exact no nofun
  ·exact(by0 (n:=n) H ys e').trans (sM (λe=>congrArg V.tup e) λe=>V.tup.inj e)
theorem ap5 (x:V)(n:Nat)(d:pK n x=true):(pd x).canLay0=true∧(pd x).depth≤n:=by
 refine mR (P:=λn x=>(pd x).canLay0=true∧(pd x).depth≤n) (λn _=>⟨rfl,Nat.zero_le n⟩) (λn _ k=>⟨k,Nat.zero_le n⟩) (λn xs _ H=>?_) n x d;exact have q:=u5 H;⟨q.1,Nat.succ_le_succ q.2⟩
def bC4 (w:World)(n:Nat)(x:V):Prop:=∀(v:Value) (s:Shared) (A:Around) (E:Value→Shared→Prop) (Q:Int→Shared→Prop),A.units+n < cLine→fE s.heap x v→Q (iT w x) { s with toks:=s.toks+yN x }→wpAny (model prog w) A (pyHash v) Q E s
theorem bR4 {A:Around}{n:Nat}(hu:A.units+(n+1) < cLine):A.in1.units+n < cLine:=by simp only[Around.in1_units];lia
theorem bl6 {n:Nat}{xs:List V}(H:∀x∈xs,bC4 w n x):∀(vs:List Value) (s:Shared) (A:Around) (E:Value→Shared→Prop) (b:Array Int) (Q:Array Int→Shared→Prop),A.units+n < cLine→i7 s.heap xs vs→
  Q (b.toList++fA w xs).toArray { s with toks:=s.toks+ap0 xs }→
  wpAny (model prog w) A (forIn vs b λx r=>do let h ←pyHash x;pure PUnit.unit;pure (ForInStep.yield (r.push h))) Q E s:=by
 induction xs with
 | nil=>
  intro vs s A E b Q hu r h;subst r;have h:Q (b.toList++[]).toArray s:=h;rw[List.append_nil]at h;rw[List.forIn_nil];exact zP h
 | cons x xs ih=>
  intro vs s A E b Q hu r h;obtain⟨v,t,rfl,a,l⟩:=r;rw[List.forIn_cons];refine zW (zW (H x (.head _) v s A _ _ hu a (zW (zP (zP ?_)))));refine ih (λy h=>H y (.tail _ h)) t { s with toks:=s.toks+yN x } A E (b.push (iT w x)) Q hu l ?_;have h:Q (b.toList++iT w x::fA w xs).toArray { s with toks:=s.toks+(yN x+ap0 xs) }:=h
  simpa [Nat.add_assoc]using h
theorem aO9 (x:V)(n:Nat)(v:Value)(s:Shared)(A:Around)(E:Value→Shared→Prop)(Q:Int→Shared→Prop)(hu:A.units+n < cLine)(d:pK n x=true):fE s.heap x v→
  Q (iT w x) { s with toks:=s.toks+yN x }→wpAny (model prog w) A (pyHash v) Q E s:=by
 refine mR (P:=bC4 w) (λn i v s A E Q hu r h=>?_) (λn i _ v s A E Q hu r h=>?_) (λn xs _ H v s A E Q hu r h=>?_) n x d v s A E Q hu
 ·obtain⟨t,rfl⟩:=r;exact wpAny_pyHash_int h
 ·obtain⟨t,rfl⟩:=r;exact wpAny_pyHash_str h
 ·obtain⟨a,vs,k,rfl,g,l⟩:=r;have hT:s.TypeIs (.ref a) "tuple":=⟨_,g,rfl⟩;refine zW (wpAny_cRoomFor_or (.inr (Nat.lt_of_le_of_lt (Nat.le_add_right _ _) hu)) ?_);refine zW (wpAny_specialOf hT PySem.F.slot_tuple_hash.lookup ?_);show wpAny _ _ (if(some (Value.builtin "tuple.__hash__")==some Value.none)=true then _ else _) Q E s;rw[if_neg (by rw[beq_builtin_none];exact Bool.false_ne_true)];refine zW (wpAny_specialOf hT PySem.F.slot_tuple_hash.lookup ?_);show wpAny _ _ (callSpecialIfBoundUnlessNone? (.ref a) "__hash__" _ >>= _) Q E s;refine zW (wpAny_callSpecialIfBoundUnlessNone?_slot hT PySem.F.slot_tuple_hash (wpAny_call_entry PySem.F.slot_tuple_hash hT PySem.F.entry_tuple_hash ?_ (PySem.F.args_tuple_hash_1 _)));show wpAny _ _ (Builtin.Tuple.tupleItemsOf (.ref a) >>= _) _ _ s;refine zW (wpAny_tupleItemsOf g rfl ?_);refine zW ?_;rw[←Array.forIn_toList];refine bl6 (n:=n) H vs s A.in1 _ #[] _ (bR4 hu) l ?_;show wpAny _ _ (retInt (Builtin.Tuple.tupleHashOf (([]++fA w xs).toArray.toList))) _ _ _;rw[List.nil_append];refine wpAny_ret_mkInt ?_;show wpAny _ _ (if(decide (-(2:Int) ^ 63≤Builtin.Tuple.tupleHashOf (fA w xs))&&decide (Builtin.Tuple.tupleHashOf (fA w xs) < 2 ^ 63))=true then _ else _) Q E _;have h:Q (reduceHash (Builtin.Tuple.tupleHashOf (fA w xs))) { s with toks:=s.toks+(ap0 xs+1) }:=h;unfold reduceHash at h;by_cases hr:(decide (-(2:Int) ^ 63≤Builtin.Tuple.tupleHashOf (fA w xs))&&decide (Builtin.Tuple.tupleHashOf (fA w xs) < 2 ^ 63))=true
  ·rw[if_pos hr];rw[if_pos hr]at h;exact zP (by simpa [Nat.add_assoc]using h)
  ·rw[if_neg hr];rw[if_neg hr]at h;exact zW (wpAny_rule (zP (by simpa [Nat.add_assoc]using h)))
end
section
variable {X:Addr→Prop}{w:World}{h h' hZ:Heap}{μ:List Loc}{F:Addr→Prop}{A:Around}{E:Value→Shared→Prop}{s:Shared}{Y Y':H}
def bg1 (w:World)(n:Nat)(x:V):Prop:=∀(m:Nat) (v:Value) (s:Shared) (A:Around) (E:Value→Shared→Prop) (Q:Bool→Shared→Prop),n≤m→fE s.heap x v→Q true s→wpAny (model prog w) A (eqIsQuiet m v) Q E s
theorem aU7 {n:Nat}{xs:List V}(H:∀x∈xs,bg1 w n x):∀(m:Nat) (vs:List Value) (s:Shared) (A:Around) (E:Value→Shared→Prop) (Q:Option Bool×Unit→Shared→Prop),n≤m→i7 s.heap xs vs→Q (Option.none,()) s→
  wpAny (model prog w) A (forIn vs ((Option.none,()):Option Bool×Unit) λy r=>do
   let b ←eqIsQuiet m y
   if(!b)=true then pure (ForInStep.done (some false,()))else pure (ForInStep.yield (Option.none,()))) Q E s:=by
 induction xs with
 | nil=>
  intro m vs s A E Q hn r h;subst r;rw[List.forIn_nil];exact zP h
 | cons x xs ih=>
  intro m vs s A E Q hn r h;obtain⟨v,t,rfl,a,l⟩:=r;rw[List.forIn_cons];refine zW (zW (H x (.head _) m v s A _ _ hn a ?_));simp only[Bool.not_true,Bool.false_eq_true,if_false];exact zP (ih (λy h=>H y (.tail _ h)) m t s A E Q hn l h)
theorem bh9 (x:V)(n m:Nat)(v:Value)(s:Shared)(A:Around)(E:Value→Shared→Prop)(Q:Bool→Shared→Prop)(hn:n≤m)(d:pK n x=true):fE s.heap x v→Q true s→wpAny (model prog w) A (eqIsQuiet m v) Q E s:=by
 refine mR (P:=bg1 w) (λn i m v s A E Q hn r h=>?_) (λn i _ m v s A E Q hn r h=>?_) (λn xs _ H m v s A E Q hn r h=>?_) n x d m v s A E Q hn
 ·obtain⟨t,rfl⟩:=r;rw[eqIsQuiet_byValue _ rfl];exact zP h
 ·obtain⟨t,rfl⟩:=r;rw[eqIsQuiet_byValue _ rfl];exact zP h
 ·cases m with
  | zero=>exact absurd hn (Nat.not_succ_le_zero n)
  | succ m=>
  obtain⟨a,vs,k,rfl,g,l⟩:=r;have hT:s.TypeIs (.ref a) "tuple":=⟨_,g,rfl⟩;unfold eqIsQuiet;refine zW (wpAny_specialOf hT PySem.F.slot_tuple_eq.lookup ?_);show wpAny _ _ (isInstance (.ref a) (.type "tuple") >>= _) _ _ s;refine zW (wpAny_isInstance hT isSubtype_tuple_tuple ?_);simp only[Bool.not_true,Bool.false_eq_true,if_false];refine zW (wpAny_seqItems g rfl ?_);refine zW ?_;show wpAny _ _ (forIn vs.toArray _ _) _ _ s;rw[←Array.forIn_toList];refine aU7 H m vs s A _ _ (Nat.le_of_succ_le_succ hn) l ?_;exact zP h
theorem fO {x:V}(e:kT x=true):pK 5 x=true∧∃xs,x=.tup xs:=by
 cases x
 case tup xs=>exact⟨e,xs,rfl⟩
 all_goals exact oN e
def bO6 (w:World):HeapKind prog w V where
 is:=λh k a=>kT k=true∧fE h k (.ref a)
 hash:=iT w
 draws:=yN
 room:=λA=>A.units+20 < cLine
 inj:=λhx hy=>fE.inj _ _ _ (fO hx.1).1 hx.2 hy.2
 keeps:=λ{h h' k a d o es ep} x ho hd hs=>⟨x.1,fE.keep (λb vs n g=>by
  have hne:b≠d:=λe=>by
   rw[e,ho]at g;cases g;cases hd
  exact(hs.2 b hne).trans g) _ (fO x.1).1 _ x.2⟩
 pyHash:=λhu hk h=>aO9 _ 5 _ _ _ _ _ (by lia) (fO hk.1).1 hk.2 h
 eqBool:=λ{A E s x y a b Q} hu hx hy h=>by
  obtain⟨as,ra⟩:=fE.reads _ _ (fO hx.1).1 hx.2;obtain⟨bs,rb⟩:=fE.reads _ _ (fO hy.1).1 hy.2;have ca:=ap5 _ 5 (fO hx.1).1;have cb:=ap5 _ 5 (fO hy.1).1;refine SeqAt.eqAt_reads _ _ A s _ _ as bs ra rb ca.1 cb.1 (by lia) prog w E Q ?_;rw[bJ0 x 5 5 y (fO hx.1).1 (fO hy.1).1];exact h
 quiet:=λhk h=>bh9 _ 5 8 _ _ _ _ _ (by lia) (fO hk.1).1 hk.2 h
def fV (k:V)(es:List (V×V)):Option Nat:=es.findIdx? λe=>decide (e.1=k)
structure DRep (w:World) (h:Heap) (μ:List Loc) (F:Addr→Prop) (d:Addr) (en:List DictEntry) (n:Nat) (es:List (V×V)):Prop where
 at_:h.get? d=some (dictOf en n)
 keys:bC w h μ F (es.map (·.1)) (en.map (·.key))
 hash:en.map (·.hash)=fA w (es.map (·.1))
 vals:bC w h μ F (es.map (·.2)) (en.map (·.val))
 nodup:(es.map (·.1)).Nodup
 size:es.length≤200000
theorem aX5:∀{ks:List V} {i:Nat} {k:V},ks[i]?=some k→(fA w ks)[i]?=some (iT w k):=by
 intro ks
 induction ks with
 | nil=>intro i k e;cases e
 | cons x r ih=>intro i k e;cases i with
  | zero=>exact congrArg (λo=>o.map (iT w)) e
  | succ i=>exact ih (i:=i) e
theorem r7:∀{xs:List V} {vs:List Value},bC w h μ F xs vs→∀{k:Nat} {v:Value},vs[k]?=some v→∃x,xs[k]?=some x∧cD w h μ F x v:=by
 intro ll
 induction ll with
 | nil=>
  intro _ r k v e;subst r;simp at e
 | cons y xs ih=>
  intro vs r k v e;obtain⟨v,s,rfl,a,b⟩:=r;cases k with
  | zero=>simp only[List.getElem?_cons_zero,Option.some.injEq]at e;subst e;exact⟨y,rfl,a⟩
  | succ k=>simp only[List.getElem?_cons_succ]at e ⊢;exact ih b e
theorem DRep.entry {d:Addr}{en:List DictEntry}{n:Nat}{es:List (V×V)}(D:DRep w h μ F d en n es){i:Nat}{e:DictEntry}(he:en[i]?=some e) :
  ∃p,es[i]?=some p∧cD w h μ F p.1 e.key∧e.hash=iT w p.1∧cD w h μ F p.2 e.val:=by
 obtain⟨k,hk,rk⟩:=r7 D.keys (k:=i) (v:=e.key) (by rw[List.getElem?_map,he];rfl);obtain⟨x,hx,rx⟩:=r7 D.vals (k:=i) (v:=e.val) (by rw[List.getElem?_map,he];rfl);rw[List.getElem?_map]at hk hx;obtain⟨p,hp,rfl⟩:=Option.map_eq_some_iff.mp hk;rw[hp]at hx;cases hx;refine⟨p,hp,rk,?_,rx⟩;have h1:(en.map (·.hash))[i]?=some e.hash:=by rw[List.getElem?_map,he];rfl
 rw[D.hash,aX5 (k:=p.1) (by rw[List.getElem?_map,hp];rfl)]at h1;exact(Option.some.inj h1).symm
theorem DRep.len {d:Addr}{en:List DictEntry}{n:Nat}{es:List (V×V)}(D:DRep w h μ F d en n es):en.length=es.length:=by
 have:=bO D.keys;simpa using this.symm
theorem uG {α β:Type}{p:α→Bool}{q:β→Bool}:∀{xs:List α} {ys:List β},xs.length=ys.length→(∀(i:Nat) (a:α) (b:β),xs[i]?=some a→ys[i]?=some b→p a=q b)→xs.findIdx? p=ys.findIdx? q:=by
 intro xs
 induction xs with
 | nil=>intro ys e _;cases ys with
  | nil=>rfl
  | cons _ _=>cases e
 | cons a xs ih=>intro ys e h;cases ys with
  | nil=>cases e
  | cons b ys=>
   have h0:=h 0 a b rfl rfl;have ih:=ih (Nat.succ.inj e) λi a' b' h1 h2=>h (i+1) a' b' h1 h2;simp only[List.findIdx?_cons,h0,ih]
def bP6:Value→Addr | .ref b=>b | _=>0
def ay5:List (V×V)→List DictEntry→List (V×Addr×Value)
 | p::es,e::en=>(p.1,bP6 e.key,e.val)::ay5 es en
 | _,_=>[]
theorem xG:∀(es:List (V×V)) (en:List DictEntry) (i:Nat) (p:V×V) (e:DictEntry),es[i]?=some p→en[i]?=some e→(ay5 es en)[i]?=some (p.1,bP6 e.key,e.val):=by
 intro es
 induction es with
 | nil=>intro _ i p e h _;cases h
 | cons q es ih=>
  intro en i p e h1 h2;cases en with
  | nil=>cases h2
  | cons f en=>
  cases i with
  | zero=>rw[←Option.some.inj h1,←Option.some.inj h2];rfl
  | succ i=>exact ih en i p e h1 h2
theorem xF:∀(es:List (V×V)) (en:List DictEntry),en.length=es.length→(ay5 es en).length=es.length
 | [],_,_=>rfl
 | _::_,[],h=>by simp at h
 | q::es,f::en,h=>congrArg Nat.succ (xF es en (Nat.succ.inj h))
theorem ae4:∀(es:List (V×V)) (en:List DictEntry),en.length=es.length→(ay5 es en).map (·.1)=es.map (·.1)
 | [],_,_=>rfl
 | _::_,[],h=>by simp at h
 | q::es,f::en,h=>congrArg (List.cons q.1) (ae4 es en (Nat.succ.inj h))
theorem wX {d:Addr}{en:List DictEntry}{n:Nat}{es:List (V×V)}{k:V}{key:Value}{Q:Option Nat→Shared→Prop}(hu:A.units+20 < cLine)(D:DRep w s.heap μ F d en n es)
  (ko:bM k (es.map (·.1))=true) (rk:cD w s.heap μ F k key) (h:Q (fV k es) s):wpAny (model prog w) A (dictFind d key (iT w k)) Q E s:=by
 unfold bM at ko;simp only[Bool.or_eq_true,Bool.and_eq_true,List.all_eq_true,List.mem_map,forall_exists_index,and_imp,forall_apply_eq_imp_iff₂]at ko;rcases ko with(⟨kk,ka⟩ | ⟨kk,ka⟩) | ⟨kk,ka⟩
 ·obtain⟨i,rfl⟩:=aW6 kk;obtain⟨t,rfl⟩:=rk;have key:∀{i:Nat} {e:DictEntry},en[i]?=some e→∃p j t,es[i]?=some p∧p.1=.int j∧e.key=.int j t∧e.hash=hashInt j:=λhe=>by
   obtain⟨p,hp,r1,r2,_⟩:=D.entry he;have:=ka p (zE hp);obtain⟨j,hp1⟩:=aW6 this;rw[hp1]at r1 r2;obtain⟨t,r1⟩:=r1;exact⟨p,j,t,hp,hp1,r1,r2⟩
  refine wpAny_dictFind_of (knd:=PySem.intKind prog w) (k:=i) (o:=dictOf en n) (by simp[PySem.intKind,Value.isInt]) D.at_ rfl (λe he=>?_) ?_
  ·obtain⟨j,hj⟩:=List.mem_iff_getElem?.mp (by simpa using he);obtain⟨p,q,t,_,_,h3,h4⟩:=key hj;exact⟨q,by rw[h3];simp[PySem.intKind,Value.isInt],h4⟩
  ·have:(en.toArray.findIdx? λe=>(PySem.intKind prog w).is i e.key)=fV (.int i) es:=by
    rw[List.findIdx?_toArray];refine uG D.len λj e p he hp=>?_;obtain⟨p',q,t,h1,h2,h3,_⟩:=key he;rw[hp]at h1;cases h1;rw[h2,h3];simp[PySem.intKind,Value.isInt,w7,eq_comm]
   rw[this];exact h
 ·obtain⟨i,rfl⟩:=aW5 kk;obtain⟨t,rfl⟩:=rk;have key:∀{i:Nat} {e:DictEntry},en[i]?=some e→∃p j t,es[i]?=some p∧p.1=.str j∧e.key=.str j t∧e.hash=hashStr w j:=λhe=>by
   obtain⟨p,hp,r1,r2,_⟩:=D.entry he;have:=ka p (zE hp);obtain⟨j,hp1⟩:=aW5 this;rw[hp1]at r1 r2;obtain⟨t,r1⟩:=r1;exact⟨p,j,t,hp,hp1,r1,r2⟩
  refine wpAny_dictFind_of (knd:=PySem.strKind prog w) (k:=i) (o:=dictOf en n) (by simp[PySem.strKind,Value.isStrOf]) D.at_ rfl (λe he=>?_) ?_
  ·obtain⟨j,hj⟩:=List.mem_iff_getElem?.mp (by simpa using he);obtain⟨p,q,t,_,_,h3,h4⟩:=key hj;exact⟨q,by rw[h3];simp[PySem.strKind,Value.isStrOf],h4⟩
  ·have:(en.toArray.findIdx? λe=>(PySem.strKind prog w).is i e.key)=fV (.str i) es:=by
    rw[List.findIdx?_toArray];refine uG D.len λj e p he hp=>?_;obtain⟨p',q,t,h1,h2,h3,_⟩:=key he;rw[hp]at h1;cases h1;rw[h2,h3];simp[PySem.strKind,Value.isStrOf,w7]
   rw[this];exact h
 ·obtain⟨kd,xs,rfl⟩:=fO kk;have r0:=fE.of 5 _ _ kd rk;have rk':=r0;obtain⟨a,vs,m,rfl,g,l⟩:=rk';have key:∀{i:Nat} {e:DictEntry},en[i]?=some e→∃p b,es[i]?=some p∧e.key=.ref b∧kT p.1=true∧fE s.heap p.1 (.ref b)∧e.hash=iT w p.1:=λhe=>by
   obtain⟨p,hp,r1,r2,_⟩:=D.entry he;have kt:=ka p (zE hp);have q:=fE.of 5 _ _ (fO kt).1 r1;obtain⟨ys,hy⟩:=(fO kt).2;have q':=q;rw[hy]at q';obtain⟨b,_,_,hb,_⟩:=q';exact⟨p,b,hp,hb,kt,by rw[←hb];exact q,r2⟩
  have pair:∀{i:Nat},i < es.length→∃p e,es[i]?=some p∧en[i]?=some e:=λhi=>
   ⟨_,_,List.getElem?_eq_getElem hi,List.getElem?_eq_getElem (by rw[D.len];exact hi)⟩
  have inv:∀{i:Nat} {x:V×Addr×Value},(ay5 es en)[i]?=some x→∃p e,es[i]?=some p∧en[i]?=some e∧x=(p.1,bP6 e.key,e.val):=λ{i x} hx=>by
   have hi:=(zG hx).1;rw[xF es en D.len]at hi;obtain⟨p,e,h1,h2⟩:=pair hi;rw[xG es en i p e h1 h2]at hx;exact⟨p,e,h1,h2,(Option.some.inj hx).symm⟩
  refine wpAny_dictFind_heap (knd:=bO6 w) (xs:=ay5 es en) (k:=.tup xs) hu ⟨kk,r0⟩ D.at_ rfl ?_ (λx hx=>?_) (by rw[ae4 es en D.len];exact D.nodup) (λhno=>?_) (λj p hj=>?_)
  ·show en=_;apply List.ext_getElem?;intro i;rw[List.getElem?_map];by_cases hi:i < es.length
   ·obtain⟨p,e,h1,h2⟩:=pair hi;rw[h2,xG es en i p e h1 h2];obtain⟨p',b,hp,hb,kt,_,hh⟩:=key h2;rw[h1]at hp;cases hp;obtain⟨e1,e2,e3⟩:=e;simp only at hb hh;subst hb hh;rfl
   ·rw[List.getElem?_eq_none (by rw[D.len];lia),List.getElem?_eq_none (by rw[xF es en D.len];lia)];rfl
  ·obtain⟨i,hi⟩:=List.mem_iff_getElem?.mp hx;obtain⟨p,e,h1,h2,rfl⟩:=inv hi;obtain⟨p',b,hp,hb,kt,kr,hh⟩:=key h2;rw[h1]at hp;cases hp;rw[hb];exact⟨kt,kr⟩
  ·have:fV (.tup xs) es=none:=by
    unfold fV;rw[List.findIdx?_eq_none_iff];intro p hp;rw[decide_eq_false_iff_not];intro e;obtain⟨i,hi⟩:=List.mem_iff_getElem?.mp hp;obtain⟨p',e',h1,h2⟩:=pair (zG hi).1;rw[hi]at h1;cases h1;have:=xG es en i p e' hi h2;rw[e]at this;exact hno i _ this
   rw[this]at h;exact h
  ·have:fV (.tup xs) es=some j:=by
    obtain⟨p',e,h1,h2,h3⟩:=inv hj;simp only[Prod.mk.injEq]at h3;have hlt:=(zG h1).1;have hget:=(zG h1).2;unfold fV;rw[List.findIdx?_eq_some_iff_getElem];refine⟨hlt,by rw[hget,←h3.1];simp,λi hij=>?_⟩;rw[decide_eq_true_eq];intro e';have nd:=D.nodup;have:i=j:=(List.getElem?_inj (l:=es.map (·.1)) (i:=i) (j:=j) (by simp;lia) nd).mp (by
     rw[List.getElem?_map,List.getElem?_map,h1,List.getElem?_eq_getElem (by lia)];simp only[Option.map_some];rw[e',←h3.1])
    lia
   rw[this]at h;exact h
end
section
variable {X:Addr→Prop}{w:World}{h h' hZ:Heap}{μ μ':List Loc}{F F':Addr→Prop}{A:Around}{E:Value→Shared→Prop}{s:Shared}{Y Y':H}{d:Addr}{en:List DictEntry}{n:Nat}{es:List (V×V)}{k x:V}{key v:Value}
theorem aN9 {ks:List V}(ko:bM k ks=true):kI k=true∨kS k=true∨kT k=true:=by
 unfold bM at ko;simp only[Bool.or_eq_true,Bool.and_eq_true]at ko;rcases ko with(⟨a,_⟩ | ⟨a,_⟩) | ⟨a,_⟩
 ·exact .inl a
 ·exact .inr (.inl a)
 ·exact .inr (.inr a)
theorem sG {ks:List V}{Q:Int→Shared→Prop}(hu:A.units+20 < cLine)(ko:bM k ks=true)(rk:cD w s.heap μ F k key)(h:∀t',Q (iT w k) { s with toks:=t' }):wpAny (model prog w) A (pyHash key) Q E s:=by
 rcases aN9 ko with q | q | q
 ·obtain⟨i,rfl⟩:=aW6 q;obtain⟨t,rfl⟩:=rk;exact wpAny_pyHash_int (h _)
 ·obtain⟨i,rfl⟩:=aW5 q;obtain⟨t,rfl⟩:=rk;exact wpAny_pyHash_str (h _)
 ·have kd:=(fO q).1
  exact aO9 k 5 key s A E Q (by lia) kd (fE.of 5 _ _ kd rk) (h _)
theorem wM:∀{es:List (V×V)} {x:V},dM k es=some x↔∃i p,fV k es=some i∧es[i]?=some p∧p.2=x:=by
 intro ll
 induction ll with
 | nil=>
  intro x;simp[aN5,fV]
 | cons e r ih=>
  intro x;rw[f9];unfold fV;rw[List.findIdx?_cons];by_cases q:e.1=k
  ·rw[if_pos q,decide_eq_true q];simp only[Option.some.injEq,if_true];constructor
   ·intro h;exact⟨0,e,rfl,rfl,h⟩
   ·rintro⟨i,p,rfl,h2,h3⟩;simp only[List.getElem?_cons_zero,Option.some.injEq]at h2;subst h2;exact h3
  ·rw[if_neg q,decide_eq_false q];simp only[Bool.false_eq_true,if_false];rw[ih];unfold fV;constructor
   ·rintro⟨i,p,h1,h2,h3⟩;exact⟨i+1,p,by rw[h1];rfl,by simpa using h2,h3⟩
   ·rintro⟨i,p,h1,h2,h3⟩;obtain⟨j,hj,rfl⟩:=Option.map_eq_some_iff.mp h1;exact⟨j,p,hj,by simpa using h2,h3⟩
theorem look_none {es:List (V×V)}:dM k es=none↔fV k es=none:=by
 induction es with
 | nil=>simp[aN5,fV]
 | cons e r ih=>
  rw[f9];unfold fV;rw[List.findIdx?_cons];by_cases q:e.1=k
  ·rw[if_pos q,decide_eq_true q];simp
  ·rw[if_neg q,decide_eq_false q];simp only[Bool.false_eq_true,if_false];rw[ih];unfold fV;simp
theorem aH6 {Q:Option Value→Shared→Prop}(hu:A.units+20 < cLine)(D:DRep w s.heap μ F d en n es)(ko:bM k (es.map (·.1))=true)(rk:cD w s.heap μ F k key)
  (h0:dM k es=none→∀t',Q none { s with toks:=t' }) (h1:∀x v,dM k es=some x→cD w s.heap μ F x v→∀t',Q (some v) { s with toks:=t' }) :
  wpAny (model prog w) A (dictGet d key) Q E s:=by
 unfold dictGet;refine wpAny_holding ?_;refine zW (sG hu ko rk λt'=>zW (wX (s:={ s with toks:=t' }) hu D ko rk ?_));cases hi:fV k es with
 | none=>exact zP (h0 (look_none.mpr hi) t')
 | some i=>
  refine zW (wpAny_dictEntries (s:={ s with toks:=t' }) D.at_ rfl ?_);have hlt:i < es.length:=by
   have hi':=hi;unfold fV at hi';exact(List.findIdx?_eq_some_iff_getElem.mp hi').1
  have hltE:i < en.length:=by rw[D.len];exact hlt
  have he:en[i]?=some en[i]:=List.getElem?_eq_getElem hltE;obtain⟨p,hp,_,_,r⟩:=D.entry he;have:(en.toArray[i]?).map (·.val)=some en[i].val:=by simp[hltE]
  rw[this];exact zP (h1 p.2 _ (wM.mpr ⟨i,p,hi,hp,rfl⟩) r t')
theorem dT (D:DRep w s.heap μ F d en n es):s.TypeIs (.ref d) "dict":=⟨_,D.at_,rfl⟩
theorem aX3 {Q:Value→Shared→Prop}{neg:Bool}(hu:A.units+22 < cLine)(hd:(d==sysModules)=false)(D:DRep w s.heap μ F d en n es)(ko:bM k (es.map (·.1))=true)(rk:cD w s.heap μ F k key)
  (h:∀t',Q (.bool (if neg then !(dM k es).isSome else(dM k es).isSome)) { s with toks:=t' }):wpAny (model prog w) A (compareOp (if neg then .NotIn else .In) key (.ref d)) Q E s:=by
 have body:∀(Q':Bool→Shared→Prop),(∀t',Q' (dM k es).isSome { s with toks:=t' })→wpAny (model prog w) A (contains (.ref d) key) Q' E s:=by
  intro Q' h';unfold contains;refine wpAny_holding ?_;refine zW (wpAny_specialOf (dT D) slot_dict_contains.lookup ?_);show wpAny _ _ (if(some (Value.builtin "dict.__contains__")==some Value.none)=true then _ else _) _ E s;rw[if_neg (by rw[beq_builtin_none];exact Bool.false_ne_true)];refine zW (wpAny_callSpecialUnlessNone?_slot (name:=Str.ofString "__contains__") (dT D) slot_dict_contains
   (wpAny_call_entry slot_dict_contains (dT D) entry_dict_contains ?_ (args_dict_contains _ _)))
  show wpAny _ _ (dictGet d key >>= _) _ _ s;refine zW (aH6 (A:=A.in1) (by simp only[Around.in1_units];lia) D ko rk (λhl t'=>?_) λx v hl r t'=>?_)
  ·show wpAny _ _ (Builtin.Dict.pendingKey? d key >>= _) _ _ _;refine zW (wpAny_pendingKey_other hd (zP ⟨_,rfl,wpAny_truthy_bool ?_⟩));have:=h' t';rw[hl]at this;exact this
  ·show wpAny _ _ (PySem.ret (.bool true)) _ _ _;refine zP ⟨_,rfl,wpAny_truthy_bool ?_⟩;have:=h' t';rw[hl]at this;exact this
 cases neg
 ·show wpAny _ _ (do return .bool (←contains (.ref d) key)) Q E s;exact zW (body _ λt'=>zP (h t'))
 ·show wpAny _ _ (do return .bool (!(←contains (.ref d) key))) Q E s;exact zW (body _ λt'=>zP (h t'))
theorem wR {Q:Value→Shared→Prop}(hu:A.units+22 < cLine)(D:DRep w s.heap μ F d en n es)(ko:bM k (es.map (·.1))=true)(rk:cD w s.heap μ F k key)(e:dM k es=some x)
  (h:∀v t',cD w s.heap μ F x v→Q v { s with toks:=t' }):wpAny (model prog w) A (getItem (.ref d) key) Q E s:=by
 unfold getItem;refine wpAny_holding ?_;refine zW (wpAny_sequenceKey (dT D) (by decide) ?_);refine zW (wpAny_callSpecial?_slot (name:=Str.ofString "__getitem__") (dT D) slot_dict_getitem
  (wpAny_call_entry slot_dict_getitem (dT D) entry_dict_getitem ?_ (args_dict_getitem _ _)))
 show wpAny _ _ (dictGet d key >>= _) _ _ s;refine zW (aH6 (A:=A.in1) (by simp only[Around.in1_units];lia) D ko rk (λhl=>by rw[e]at hl;cases hl) λx' v hl r t'=>?_);rw[e]at hl;cases hl;exact zP ⟨v,rfl,zP (h v t' r)⟩
theorem bb8:∀{es:List (V×V)} {i:Nat},fV k es=some i→put k x es=es.modify i λp=>(p.1,x):=by
 intro ll
 induction ll with
 | nil=>
  intro i e;simp[fV]at e
 | cons p r ih=>
  intro i e;unfold fV at e;rw[List.findIdx?_cons]at e;rw[qM];by_cases q:p.1=k
  ·rw[decide_eq_true q]at e;simp only[if_true,Option.some.injEq]at e;subst e;rw[if_pos q];simp
  ·rw[decide_eq_false q]at e;simp only[Bool.false_eq_true,if_false]at e;obtain⟨j,hj,rfl⟩:=Option.map_eq_some_iff.mp e;rw[if_neg q,ih hj];simp[List.modify_succ_cons]
theorem aF1:∀{es:List (V×V)},fV k es=none→put k x es=es++[(k,x)]:=by
 intro ll
 induction ll with
 | nil=>
  intro _;exact rfl
 | cons p r ih=>
  intro e;unfold fV at e;rw[List.findIdx?_cons]at e;rw[qM];by_cases q:p.1=k
  ·rw[decide_eq_true q]at e;simp at e
  ·rw[decide_eq_false q]at e;simp only[Bool.false_eq_true,if_false,Option.map_eq_none_iff]at e;rw[if_neg q,ih e];rfl
theorem bJ3:∀{es:List (V×V)} {i:Nat},fV k es=some i→drop k es=es.eraseIdx i:=by
 intro ll
 induction ll with
 | nil=>
  intro i e;simp[fV]at e
 | cons p r ih=>
  intro i e;unfold fV at e;rw[List.findIdx?_cons]at e;rw[oJ];by_cases q:p.1=k
  ·rw[decide_eq_true q]at e;simp only[if_true,Option.some.injEq]at e;subst e;rw[if_pos q];simp
  ·rw[decide_eq_false q]at e;simp only[Bool.false_eq_true,if_false]at e;obtain⟨j,hj,rfl⟩:=Option.map_eq_some_iff.mp e;rw[if_neg q,ih hj];simp
theorem aH5 (e:fV k es=none):k∉es.map (·.1):=by
 unfold fV at e;rw[List.findIdx?_eq_none_iff]at e;intro hm;obtain⟨p,hp,rfl⟩:=zM hm;have:=e p hp;simp at this
theorem aQ7 {en:List DictEntry}{n i:Nat}{g:DictEntry→DictEntry}:Obj.mapDict (λx=>x.modify i g) (dictOf en n)=dictOf (en.modify i g) n:=congrArg (λa=>Obj.mapDict (λ_=>a) (dictOf [] n)) List.modify_toArray
theorem aC4 {en:List DictEntry}{n:Nat}{e:DictEntry}:Obj.mapDictKeys (λx=>x.push e) (dictOf en n)=dictOf (en++[e]) (n+1):=congrArg (λa=>Obj.mapDictKeys (λ_=>a) (dictOf [] n)) (List.push_toArray en e)
theorem aY2 {en:List DictEntry}{n i:Nat}:Obj.mapDictKeys (λx=>x.eraseIdxIfInBounds i) (dictOf en n)=dictOf (en.eraseIdx i) (n+1):=congrArg (λa=>Obj.mapDictKeys (λ_=>a) (dictOf [] n)) (List.eraseIdxIfInBounds_toArray en i)
theorem aL1:∀{xs:List V} {vs:List Value} {i:Nat} {x:V} {v:Value},bC w h μ F xs vs→cD w h μ F x v→bC w h μ F (xs.modify i λ_=>x) (vs.modify i λ_=>v):=by
 intro xs
 induction xs with
 | nil=>intro vs i x v r _;subst r;cases i<;>rfl
 | cons y xs ih=>
  intro vs i x v r q;obtain⟨u,t,rfl,a,b⟩:=r;cases i with
  | zero=>exact bC.cons (q) (b)
  | succ i=>exact bC.cons (a) (ih b q)
theorem af3:∀{xs:List V} {vs:List Value} {i:Nat},bC w h μ F xs vs→bC w h μ F (xs.eraseIdx i) (vs.eraseIdx i):=by
 intro xs
 induction xs with
 | nil=>intro vs i r;subst r;cases i<;>rfl
 | cons y xs ih=>
  intro vs i r;obtain⟨u,t,rfl,a,b⟩:=r;cases i with
  | zero=>exact b
  | succ i=>exact bC.cons (a) (ih b)
theorem dW {α β:Type}(f:α→β)(g:α→α)(hg:∀a,f (g a)=f a):∀(xs:List α) (i:Nat),(xs.modify i g).map f=xs.map f
 | [],i=>by simp
 | x::r,0=>by simp[hg]
 | x::r,i+1=>by simp[List.modify_succ_cons,dW f g hg r i]
theorem lT {α β:Type}(f:α→β)(g:α→α)(b:β)(hg:∀a,f (g a)=b):∀(xs:List α) (i:Nat),(xs.modify i g).map f=(xs.map f).modify i λ_=>b
 | [],i=>by simp
 | x::r,0=>by simp[hg]
 | x::r,i+1=>by simp[List.modify_succ_cons,lT f g b hg r i]
theorem dE {α β:Type}(f:α→β):∀(xs:List α) (i:Nat),(xs.eraseIdx i).map f=(xs.map f).eraseIdx i
 | [],i=>by simp
 | x::r,0=>by simp
 | x::r,i+1=>by simp[dE f r i]
theorem an7 (ks:List V):fA w ks=ks.map (iT w):=by
 induction ks with
 | nil=>rfl
 | cons x r ih=>exact congrArg (iT w x::·) ih
structure DData (w:World) (h:Heap) (μ:List Loc) (F:Addr→Prop) (en:List DictEntry) (es:List (V×V)):Prop where
 keys:bC w h μ F (es.map (·.1)) (en.map (·.key))
 hash:en.map (·.hash)=fA w (es.map (·.1))
 vals:bC w h μ F (es.map (·.2)) (en.map (·.val))
 nodup:(es.map (·.1)).Nodup
theorem DRep.data (D:DRep w h μ F d en n es):DData w h μ F en es:=⟨D.keys,D.hash,D.vals,D.nodup⟩
theorem DData.kept (K:Kept h μ F h' μ' F')(D:DData w h μ F en es):DData w h' μ' F' en es:=⟨bC.kept K _ _ D.keys,D.hash,bC.kept K _ _ D.vals,D.nodup⟩
theorem DData.modify (D:DData w h μ F en es){i:Nat}(e:fV k es=some i)(r:cD w h μ F x v):DData w h μ F (en.modify i λe=>{ e with val:=v }) (put k x es):=by
 rw[bb8 e];refine⟨?_,?_,?_,?_⟩
 ·rw[dW (λp:V×V=>p.1) (λp=>(p.1,x)) (λ_=>rfl),dW (λe:DictEntry=>e.key) (λe=>{ e with val:=v }) (λ_=>rfl)];exact D.keys
 ·rw[dW (λp:V×V=>p.1) (λp=>(p.1,x)) (λ_=>rfl),dW (λe:DictEntry=>e.hash) (λe=>{ e with val:=v }) (λ_=>rfl)];exact D.hash
 ·rw[lT (λp:V×V=>p.2) _ x (λ_=>rfl),lT (λp:DictEntry=>p.val) _ v (λ_=>rfl)];exact aL1 D.vals r
 ·rw[dW (λp:V×V=>p.1) (λp=>(p.1,x)) (λ_=>rfl)];exact D.nodup
theorem DData.push (D:DData w h μ F en es)(e:fV k es=none)(rk:cD w h μ F k key)(r:cD w h μ F x v):DData w h μ F (en++[⟨iT w k,key,v⟩]) (put k x es):=by
 rw[aF1 e];refine⟨?_,?_,?_,?_⟩
 ·rw[List.map_append,List.map_append];exact eX D.keys (by exact bC.cons (rk) (rfl))
 ·have:=D.hash
  rw[an7]at this ⊢;rw[List.map_append,List.map_append,List.map_append,this];rfl
 ·rw[List.map_append,List.map_append];exact eX D.vals (by exact bC.cons (r) (rfl))
 ·rw[List.map_append,List.nodup_append];refine⟨D.nodup,by simp,?_⟩;intro a ha b hb;simp only[List.map_cons,List.map_nil,List.mem_singleton]at hb;subst hb;exact λq=>aH5 e (q▸ha)
theorem DData.erase (D:DData w h μ F en es){i:Nat}(e:fV k es=some i):DData w h μ F (en.eraseIdx i) (drop k es):=by
 rw[bJ3 e];refine⟨?_,?_,?_,?_⟩
 ·rw[dE,dE];exact af3 D.keys
 ·have:=D.hash
  rw[an7]at this ⊢;rw[dE,dE,dE,this]
 ·rw[dE,dE];exact af3 D.vals
 ·rw[dE];exact List.Nodup.sublist (List.eraseIdx_sublist _ _) D.nodup
theorem bF2:(put k x es).length≤es.length+1:=by
 cases e:fV k es with
 | none=>rw[aF1 e];simp
 | some i=>rw[bb8 e];simp
theorem aQ5:∀{es:List (V×V)},(drop k es).length≤es.length
 | []=>by simp[by1]
 | p::r=>by
  rw[oJ];split
  ·simp
  ·have:=aQ5 (es:=r);simp;lia
theorem aK9 {Q:Unit→Shared→Prop}(hu:A.units+22 < cLine)(D:DRep w s.heap μ F d en n es)(hz:es.length < 100000)(ko:bM k (es.map (·.1))=true)(rk:cD w s.heap μ F k key)(r:cD w s.heap μ F x v)
  (h:∀h' en' n' t',Heap.SameBut d s.heap h'→h'.get? d=some (dictOf en' n')→DData w s.heap μ F en' (put k x es)→Q () { s with heap:=h',toks:=t' }) :
  wpAny (model prog w) A (setItem (.ref d) key v) Q E s:=by
 unfold setItem;refine wpAny_holding ?_;refine zW (wpAny_sequenceKey (dT D) (by decide) ?_);refine zW (wpAny_callSpecial?_slot (name:=Str.ofString "__setitem__") (dT D) slot_dict_setitem
  (wpAny_call_entry slot_dict_setitem (dT D) entry_dict_setitem ?_ (args_dict_setitem _ _ _)))
 show wpAny _ _ (Builtin.Dict.notOrdered "__setitem__" ⟨[.ref d,key,v],[]⟩ >>= _) _ _ s;refine zW (wpAny_notOrdered_dict (dT D) ?_);show wpAny _ _ (dictSet d key v >>= _) _ _ s;refine zW ?_;unfold dictSet;refine wpAny_holding ?_;refine zW (sG (A:=A.in1) (by simp only[Around.in1_units];lia) ko rk λt'=>?_);unfold dictSetHashed;refine wpAny_holding ?_;refine zW (wX (A:=A.in1) (s:={ s with toks:=t' }) (by simp only[Around.in1_units];lia) D ko rk ?_);cases hi:fV k es with
 | some i=>
  refine zW (wpAny_rule (zW (wpAny_updateDict (s:={ s with toks:=t' }) D.at_ rfl (wpAny_point (zP ⟨.none,rfl,zP ?_⟩)))));refine h _ (en.modify i λe=>{ e with val:=v }) n t' (Heap.SameBut.update ..) ?_ (D.data.modify hi r);have:=Heap.get?_update_self (Obj.mapDict λx=>x.modify i λe=>{ e with val:=v }) D.at_ rfl;exact this.trans (congrArg some aQ7)
 | none=>
  refine zW (wpAny_rule (wpAny_updateDictKeys (hz:=by show en.toArray.size≤_;rw[List.size_toArray,D.len,aZ];lia) (s:={ s with toks:=t' }) D.at_ rfl (zP ⟨.none,rfl,zP ?_⟩)));refine h _ (en++[⟨iT w k,key,v⟩]) (n+1) t' (Heap.SameBut.update ..) ?_ (D.data.push hi rk r);have:=Heap.get?_update_self (Obj.mapDictKeys λx=>x.push ⟨iT w k,key,v⟩) D.at_ rfl;exact this.trans (congrArg some aC4)
end
section
variable {X:Addr→Prop}{w:World}{h h' hZ:Heap}{μ μ':List Loc}{F F':Addr→Prop}{A:Around}{E:Value→Shared→Prop}{s:Shared}{Y Y':H}{n k:Nat}{l:Loc}{x y z:V}{u v:Value}{xs ys:List V}{vs us:List Value}{Q:Value→Shared→Prop}
theorem an9 {a:Addr}{f:Array Value→Array Value}(g:h.get? a=some (j9 vs k))(e:f vs.toArray=us.toArray):∃m,(h.update a (Obj.mapSeq f)).get? a=some (j9 us m):=by
 have:=Heap.get?_update_self (Obj.mapSeq f) g (by rfl);rw[this];simp only[Obj.mapSeq,e];exact⟨_,rfl⟩
theorem wN {f:Array Value→Array Value}(S:Sta X w hZ h μ Y)(e1:μ[n]?=some l)(e2:Y[n]?=some (.list xs))(g:h.get? l.a=some (j9 vs k))(hd:l.d=l.a)(e:f vs.toArray=us.toArray)
  (r:bC w h μ (Fz X μ Y) ys us) (hz:ys.length≤200000):Stp X w hZ h μ Y (h.update l.a (Obj.mapSeq f)) μ (Y.set n (.list ys)):=by
 obtain⟨m,gm⟩:=an9 g e;refine Stp.set S e1 e2 rfl (λb h1 _=>Heap.get?_update_other h _ (Ne.symm h1)) ⟨⟨_,gm⟩,by rw[hd];exact⟨_,gm⟩⟩ λK=>?_;exact⟨us,m,gm,hd,bC.kept K _ _ r,hz⟩
theorem bL8:∀{vs:List Value},vs.length≠0→vs.eraseIdx (vs.length - 1)=vs.dropLast
 | [],h=>absurd rfl h
 | [x],_=>rfl
 | x::y::r,_=>by
  have:=bL8 (vs:=y::r) (by simp);simp only[List.length_cons,Nat.add_sub_cancel]at this ⊢;rw[List.eraseIdx_cons_succ,this];rfl
theorem tG (r:bC w h μ F xs vs):bC w h μ F xs.dropLast vs.dropLast:=by
 rw[List.dropLast_eq_take,List.dropLast_eq_take,bO r];exact xL _ r
theorem bj8 {name:Str}(S:Sta X w hZ s.heap μ Y)(e1:μ[n]?=some l)(r:cD w s.heap μ (Fz X μ Y) x u)(e:bd1 name n x Y=some (z,Y'))(h:cU X w hZ s μ Y Y' z Q) :
  (name=Mine.Internal.S "append"∧wpAny (model prog w) A (call (.builtin "list.append") [.ref l.a,u]) Q E s)∨(name=Mine.Internal.S "extend"∧wpAny (model prog w) A (call (.builtin "list.extend") [.ref l.a,u]) Q E s):=by
 unfold bd1 at e;replace e:=aG.mp e;obtain⟨xs,_,z0,e⟩:=e
 first | replace z0:=gW.mp z0 | replace z0:=aY.mp z0
 obtain⟨e2,rfl⟩:=z0;replace e:=aG.mp e;obtain⟨_,_,z1,e⟩:=e
 first | replace z1:=gW.mp z1 | replace z1:=aY.mp z1
 obtain⟨hz,rfl⟩:=z1;rw[decide_eq_true_eq]at hz;obtain⟨vs,k,g,hd,rl,_⟩:=S.obj _ _ _ e1 e2;have hl:=bO rl;split at e
 ·rename_i q;replace e:=aG.mp e;obtain⟨_,_,z0,e⟩:=e;replace z0:=kQ.mp z0;subst z0;replace e:=aM.mp e;obtain⟨rfl,rfl⟩:=e;refine .inl ⟨q,call_meets F.slot_list_append ⟨_,g,rfl⟩ F.entry_list_append (F.args_list_append_2 _ _) (list_append l.a vs.toArray k u (by rw[List.size_toArray,aZ];lia)) ⟨g,?_⟩⟩;have st:=wN (f:=λxs=>xs.push u) (us:=vs++[u]) (ys:=xs++[x]) S e1 e2 g hd (by simp) (eX rl (by exact bC.cons (r) (rfl))) (by simp;lia);exact h _ _ _ _ st (qK ..)
 ·split at e
  ·rename_i q;replace e:=aG.mp e;obtain⟨ys,_,e3,e⟩:=e;replace e:=aG.mp e;obtain⟨_,_,z1,e⟩:=e;replace z1:=aY.mp z1;obtain⟨hy,rfl⟩:=z1;replace e:=aG.mp e;obtain⟨_,_,z2,e⟩:=e;replace z2:=kQ.mp z2;subst z2;replace e:=aM.mp e;obtain⟨rfl,rfl⟩:=e;rw[decide_eq_true_eq]at hy;have door:¬(!vs.toArray.isEmpty&&Builtin.List.listTooLong (vs.toArray.size+ys.length))=true:=by
    simp only[Builtin.List.listTooLong,List.size_toArray,aZ,Bool.and_eq_true,decide_eq_true_eq];lia
   have fin:∀{us:List Value} {Y₁:H},Y₁=Y→bC w s.heap μ (Fz X μ Y) ys us→cU X w hZ s μ Y (Y₁.set n (.list (xs++ys))) .none Q→Q .none { s with heap:=s.heap.update l.a (Obj.mapSeq λx=>x++us.toArray),toks:=s.toks }:=by
    rintro us _ rfl r' h;exact h _ _ _ _ (wN (f:=λx=>x++us.toArray) (us:=vs++us) (ys:=xs++ys) S e1 e2 g hd (by simp) (eX rl r') (by simp;lia)) (qK ..)
   refine .inr ⟨q,?_⟩;obtain⟨q3,e4⟩:=ax4 e3;clear e3;rcases q3 with rfl | rfl
   ·obtain⟨a,us,m,rfl,_,g',l',_⟩:=r;have hl':=bO l';exact call_meets F.slot_list_extend ⟨_,g,rfl⟩ F.entry_list_extend (F.args_list_extend_2 _ _) (AutoSeq1.list_extend_list_tuple_0 l.a vs.toArray k a us.toArray m (by simpa [hl']using door) (by rw[List.size_toArray,aZ];lia) (by rw[List.size_toArray,List.size_toArray,aZ];lia)) ⟨g,g',fin e4.symm l' h⟩
   ·obtain⟨a,us,m,rfl,_,g',l',_⟩:=r;have hl':=bO l';exact call_meets F.slot_list_extend ⟨_,g,rfl⟩ F.entry_list_extend (F.args_list_extend_2 _ _) (AutoSeq1.list_extend_list_list_0 l.a vs.toArray k a us.toArray m (by simpa [hl']using door) (by rw[List.size_toArray,aZ];lia) (by rw[List.size_toArray,List.size_toArray,aZ];lia)) ⟨g,g',fin e4.symm l' h⟩
  ·exact aV e
theorem bj9 {name:Str}(S:Sta X w hZ s.heap μ Y)(e1:μ[n]?=some l)(e:aA2 name n Y=some (z,Y'))(h:cU X w hZ s μ Y Y' z Q) :
  (name=Mine.Internal.S "reverse"∧wpAny (model prog w) A (call (.builtin "list.reverse") [.ref l.a]) Q E s)∨(name=Mine.Internal.S "pop"∧wpAny (model prog w) A (call (.builtin "list.pop") [.ref l.a]) Q E s):=by
 unfold aA2 at e;replace e:=aG.mp e;obtain⟨xs,_,z0,e⟩:=e;replace z0:=gW.mp z0;obtain⟨e2,rfl⟩:=z0;obtain⟨vs,k,g,hd,rl,hz⟩:=S.obj _ _ _ e1 e2;have hl:=bO rl;split at e
 ·rename_i q;replace e:=aG.mp e;obtain⟨_,_,z0,e⟩:=e;replace z0:=kQ.mp z0;subst z0;replace e:=aM.mp e;obtain⟨rfl,rfl⟩:=e;refine .inl ⟨q,call_meets F.slot_list_reverse ⟨_,g,rfl⟩ F.entry_list_reverse (F.args_list_reverse_1 _) (AutoSeq1.list_reverse_list_0 l.a vs.toArray k (by rw[List.size_toArray,aZ];lia)) ⟨g,?_⟩⟩;have st:=wN (f:=λx=>x.reverse) (us:=vs.reverse) (ys:=xs.reverse) S e1 e2 g hd (by simp) (vE rl) (by simpa using hz);exact h _ _ _ _ st (qK ..)
 ·split at e
  ·rename_i q;replace e:=aG.mp e;obtain⟨y,_,z0,e⟩:=e;replace z0:=bB.mp z0;obtain⟨e3,rfl⟩:=z0;replace e:=aG.mp e;obtain⟨_,_,z1,e⟩:=e;replace z1:=kQ.mp z1;subst z1;replace e:=aM.mp e;obtain⟨rfl,rfl⟩:=e;have hne:vs.length≠0:=by
    intro h0;rw[h0]at hl;have:=List.length_eq_zero_iff.mp hl;subst this;simp at e3
   have e4:xs[xs.length - 1]?=some z:=by rw[←List.getLast?_eq_getElem?];exact e3
   obtain⟨v,hv,rv⟩:=aL2 rl e4;rw[hl]at hv;refine .inr ⟨q,call_meets F.slot_list_pop ⟨_,g,rfl⟩ F.entry_list_pop (F.args_list_pop_1 _) (MeetsSeq.list_pop_last l.a vs.toArray k v (by simpa using hv) (by rw[List.size_toArray,aZ];lia)) ⟨g,?_⟩⟩;have st:=wN (f:=λxs=>xs.eraseIdxIfInBounds (vs.toArray.size - 1)) (us:=vs.dropLast) (ys:=xs.dropLast) S e1 e2 g hd (by simp[bL8 hne]) (tG rl) (by simp;lia);exact h v _ _ _ st (st.rep rv)
  ·exact aV e
theorem aQ4:∀(vs:List Value) (a j:Nat),(vs.zipIdx j).filterMap (λp=>if(decide ((a:Int)≤(p.2:Int))&&decide ((p.2:Int) < ((j+vs.length:Nat):Int))&&((p.2:Int) - (a:Int)) % 1==0)=true then none else some p.1)=vs.take (a - j):=by
 intro ll
 induction ll with
 | nil=>
  intro a j;simp
 | cons v r ih=>
  intro a j;have ih2:=ih a (j+1);have e:((j+1+r.length:Nat):Int)=((j+(v::r).length:Nat):Int):=by simp;lia
  rw[e]at ih2;simp only[List.zipIdx_cons,List.filterMap_cons,ih2];by_cases c:a≤j
  ·have h1:((a:Int)≤(j:Int)):=Int.ofNat_le.mpr c
   have h2:((j:Int) < ((j+(v::r).length:Nat):Int)):=by simp;lia
   have h3:((j:Int) - (a:Int)) % 1=0:=by lia
   simp only[h1,h2,h3,decide_true,Bool.and_self,BEq.rfl,if_true];rw[Nat.sub_eq_zero_of_le c,Nat.sub_eq_zero_of_le (Nat.le_succ_of_le c)];simp
  ·have h1:¬((a:Int)≤(j:Int)):=λh=>c (Int.ofNat_le.mp h)
   simp only[h1,decide_false,Bool.false_and,Bool.false_eq_true,if_false];rw[show a - j=(a - (j+1))+1 from(Nat.succ_pred_eq_of_pos (Nat.sub_pos_of_lt (Nat.not_le.mp c))).symm,List.take_succ_cons]
theorem aR8 (a m:Nat)(ha:a≤m):sliceBounds (some (a:Int)) Option.none Option.none m=((a:Int),(m:Int),1):=by
 simp only[sliceBounds,Option.getD_none];have h1:(1:Int) > 0:=by lia
 have h2:¬((a:Int) < 0):=by lia
 simp only[h1,h2,if_true,if_false];congr 1;lia
theorem aI0 {i:Int}{sl:Addr}{t:Tok}{Q:Unit→Shared→Prop}(S:Sta X w hZ s.heap μ Y)(r:cD w s.heap μ (Fz X μ Y) x u)(hs:s.heap.IsSliceOf sl (.int i t) .none .none)(e:g9 i x Y=some ((),Y'))(h:bg2 X w hZ s μ Y Y' Q) :
  wpAny (model prog w) A (delItem u (.ref sl)) Q E s:=by
 have q0:=jE e;clear e;obtain⟨n,rfl,e⟩:=q0;replace e:=aG.mp e;obtain⟨xs,_,z0,e⟩:=e
 first | replace z0:=gW.mp z0 | replace z0:=aY.mp z0
 obtain⟨e2,rfl⟩:=z0;replace e:=aG.mp e;obtain⟨_,_,z1,e⟩:=e
 first | replace z1:=gW.mp z1 | replace z1:=aY.mp z1
 obtain⟨hb,rfl⟩:=z1;replace e:=kQ.mp e;subst e;simp only[Bool.and_eq_true,decide_eq_true_eq]at hb;obtain⟨l,e1,rfl⟩:=r;obtain⟨vs,k,g,hd,rl,hz⟩:=S.obj _ _ _ e1 e2;have hl:=bO rl;obtain⟨a,rfl⟩:∃a:Nat,i=a:=⟨i.toNat,by lia⟩;obtain⟨os,hos,hcs,hds⟩:=id hs;have hTs:s.TypeIs (.ref sl) "slice":=⟨os,hos,hcs⟩;refine wpAny_delItem_slot (T:="list") ⟨_,g,rfl⟩ (by decide) F.slot_list_delitem (wpAny_call_entry F.slot_list_delitem (T:="list") ⟨_,g,rfl⟩ F.entry_list_delitem ?_ (F.args_list_delitem_2 _ _));show wpAny _ _ (Builtin.List.listSubscript? (.ref sl) >>= _) _ _ s;refine zW ?_
 ·unfold Builtin.List.listSubscript?;refine zW (wpAny_specialOf hTs slice_no_index ?_);simp only[Option.isNone_none,if_true];refine zP ?_;show wpAny _ _ (typeOf (.ref sl) >>= _) _ _ s;refine zW (wpAny_typeOf hTs ?_);rw[if_neg (by decide)];rw[listSliceParts_eq];refine zW (zW (wpAny_field hos hds (x:=.none) rfl (zW (wpAny_listPart .none ?_))));rw[if_neg (by decide)];refine zW (wpAny_field hos hds (x:=.int a t) rfl (zW (wpAny_listPart (.int a t) ?_)));refine zW (wpAny_field hos hds (x:=.none) rfl (zW (wpAny_listPart .none (zP ?_))));refine zW (m:=Builtin.List.listItems (.ref l.a)) ?_;unfold Builtin.List.listItems;refine zW (wpAny_seqItems g rfl (zP ?_));refine zW (wpAny_of_eq (sliceIndices_raw (some (a:Int)) Option.none Option.none vs.toArray.size (by simp)) ?_);rw[List.size_toArray,aR8 a vs.length (by lia)];refine zW (wpAny_rule ?_);have hpick:(vs.toArray.toList.zipIdx.filterMap λp=>if(decide ((a:Int)≤(p.2:Int))&&decide ((p.2:Int) < ((vs.length:Nat):Int))&&((p.2:Int) - (a:Int)) % 1==0)=true then none else some p.1)=vs.take a:=by
   have:=aQ4 vs a 0;rw[Nat.zero_add]at this;exact this
  have hsz:(List.toArray (vs.toArray.toList.zipIdx.filterMap λp=>if(decide ((a:Int)≤(p.2:Int))&&decide ((p.2:Int) < ((vs.length:Nat):Int))&&((p.2:Int) - (a:Int)) % 1==0)=true then none else some p.1)).size≤sizeLine+1:=by
   rw[hpick,List.size_toArray,List.length_take,aZ];lia
  refine zW (m:=updateSeq l.a _) (wpAny_updateSeq (n:=k) (xs:=vs.toArray) g rfl ?_ (by rw[List.size_toArray,aZ];lia) hsz);refine zW (wpAny_letGo (zP ⟨.none,rfl,?_⟩));have st:=wN (f:=λxs=>(xs.toList.zipIdx.filterMap λp=>if(decide ((a:Int)≤(p.2:Int))&&decide ((p.2:Int) < ((vs.length:Nat):Int))&&((p.2:Int) - (a:Int)) % 1==0)=true then none else some p.1).toArray)
   (us:=vs.take a) (ys:=xs.take a) S e1 e2 g hd (by
    have:=aQ4 vs a 0;rw[Nat.zero_add]at this;show List.toArray _=_;rw[this];rfl) (xL a rl) (by simp;lia)
  exact h _ _ _ st
end
section
variable {X:Addr→Prop}{w:World}{h h' hZ:Heap}{μ μ':List Loc}{F F':Addr→Prop}{A:Around}{E:Value→Shared→Prop}{s:Shared}{Y Y':H}{n m:Nat}{l:Loc}{x y z k:V}{u v key:Value}{es es':List (V×V)}{en en':List DictEntry}
theorem zY (S:Sta X w hZ h μ Y)(e1:μ[n]?=some l)(e2:Y[n]?=some (.dict es))(hd:l.d=l.a)(sb:Heap.SameBut l.a h h')(g:h'.get? l.a=some (dictOf en' m))(D:DData w h μ (Fz X μ Y) en' es')(hz:es'.length≤200000) :
  Stp X w hZ h μ Y h' μ (Y.set n (.dict es')):=by
 refine Stp.set S e1 e2 rfl (λb h1 _=>sb.2 b h1) ⟨⟨_,g⟩,by rw[hd];exact⟨_,g⟩⟩ λK=>?_;have D':=D.kept K;exact⟨en',m,g,hd,D'.keys,D'.hash,D'.vals,D'.nodup,hz⟩
theorem Sta.dict (S:Sta X w hZ h μ Y)(e1:μ[n]?=some l)(e2:Y[n]?=some (.dict es)):∃en m,DRep w h μ (Fz X μ Y) l.a en m es∧l.d=l.a∧(l.a==sysModules)=false:=by
 obtain⟨en,m,g,hd,r1,hh,r2,nd,z⟩:=S.obj _ _ _ e1 e2;refine⟨en,m,⟨g,r1,hh,r2,nd,z⟩,hd,?_⟩;obtain⟨o,a⟩:=S.low;have b:=(S.off _ _ e1).1;rw[beq_eq_false_iff_ne];intro q;rw[q,a]at b;cases b
theorem aY7 {ks vs:List V}(r:cD w h μ F (.dct ks vs) v):∃a en m,v=.ref a∧DRep w h μ F a en m (ks.zip vs)∧ks.length=vs.length∧(a==sysModules)=false:=by
 obtain⟨a,en,m,e,_,hs,g,r1,hh,r2,nd,z⟩:=r;have l1:=bO r1;have l2:=bO r2;simp only[List.length_map]at l1 l2;have hk:(ks.zip vs).map (·.1)=ks:=List.map_fst_zip (by lia);have hv:(ks.zip vs).map (·.2)=vs:=List.map_snd_zip (by lia);exact⟨a,en,m,e,⟨g,by rw[hk];exact r1,by rw[hk];exact hh,by rw[hv];exact r2,by rw[hk];exact nd,by simp;lia⟩,by lia,hs⟩
theorem aJ4 {ks vs:List V}(e:ks.length=vs.length):(ks.zip vs).map (·.1)=ks:=List.map_fst_zip (by lia)
theorem aE6 {Q:Unit→Shared→Prop}(hu:A.units+22 < cLine)(S:Sta X w hZ s.heap μ Y)(r:cD w s.heap μ (Fz X μ Y) x u)(rk:cD w s.heap μ (Fz X μ Y) k key)(rv:cD w s.heap μ (Fz X μ Y) y v)
  (e:b7 k y x Y=some ((),Y')) (h:bg2 X w hZ s μ Y Y' Q):wpAny (model prog w) A (setItem u key v) Q E s:=by
 have q0:=jE e;clear e;obtain⟨n,rfl,e⟩:=q0;replace e:=aG.mp e;obtain⟨es,_,z0,e⟩:=e
 first | replace z0:=kU.mp z0 | replace z0:=aY.mp z0
 obtain⟨e2,rfl⟩:=z0
 try replace e2:=zD e2
 replace e:=aG.mp e;obtain⟨_,_,z1,e⟩:=e
 first | replace z1:=kU.mp z1 | replace z1:=aY.mp z1
 obtain⟨y1,rfl⟩:=z1;obtain⟨ko,hz⟩:=zB y1
 try replace ko:=zD ko
 try replace hz:=zD hz
 replace e:=kQ.mp e;subst e;obtain⟨l,e1,rfl⟩:=r;obtain⟨en,m,D,hd,_⟩:=S.dict e1 e2;refine aK9 hu D hz ko rk rv λh' en' n' t' sb g D'=>?_;exact h _ _ _ (zY S e1 e2 hd sb g D' (by have:=bF2 (k:=k) (x:=y) (es:=es);lia))
theorem aI1 {Q:Unit→Shared→Prop}(hu:A.units+22 < cLine)(S:Sta X w hZ s.heap μ Y)(r:cD w s.heap μ (Fz X μ Y) x u)(rk:cD w s.heap μ (Fz X μ Y) k key)
  (e:iW k x Y=some ((),Y')) (h:bg2 X w hZ s μ Y Y' Q):wpAny (model prog w) A (delItem u key) Q E s:=by
 have q0:=jE e;clear e;obtain⟨n,rfl,e⟩:=q0;replace e:=aG.mp e;obtain⟨es,_,z0,e⟩:=e
 first | replace z0:=kU.mp z0 | replace z0:=aY.mp z0
 obtain⟨e2,rfl⟩:=z0;replace e:=aG.mp e;obtain⟨_,_,z1,e⟩:=e
 first | replace z1:=kU.mp z1 | replace z1:=aY.mp z1
 obtain⟨y1,rfl⟩:=z1;obtain⟨ko,hs⟩:=zB y1;replace e:=kQ.mp e;subst e;obtain⟨l,e1,rfl⟩:=r;obtain⟨en,m,D,hd,_⟩:=S.dict e1 e2;obtain⟨y,hy⟩:=Option.isSome_iff_exists.mp hs;obtain⟨i,p,hi,hp,_⟩:=wM.mp hy;have hlt:i < en.length:=by rw[D.len];exact(zG hp).1
 refine wpAny_delItem_slot (dT D) (by decide) F.slot_dict_delitem (wpAny_call_entry F.slot_dict_delitem (dT D) F.entry_dict_delitem ?_ (F.args_dict_delitem_2 _ _));show wpAny _ _ (Builtin.«dict.__delitem__» _) _ _ s;unfold Builtin.«dict.__delitem__»;refine zW ?_;unfold Builtin.Dict.dictSlotArgs;refine zW (wpAny_notOrdered_dict (dT D) ?_);show wpAny _ _ (pure (Value.ref l.a,key)) _ _ s;refine zP ?_;show wpAny _ _ (Builtin.Dict.takeOut l.a key >>= _) _ _ s;refine zW ?_;unfold Builtin.Dict.takeOut;refine wpAny_holding ?_;refine zW (sG (by simp only[Around.in1_units];lia) ko rk λt'=>zW (wX (s:={ s with toks:=t' }) (by simp only[Around.in1_units];lia) D ko rk ?_));rw[hi];refine zW (wpAny_dictEntries (s:={ s with toks:=t' }) D.at_ rfl ?_);have:(en.toArray)[i]?=some en[i]:=by simp[hlt]
 rw[this];refine zW (wpAny_updateDictKeys (hz:=by show en.toArray.size≤_;rw[List.size_toArray,D.len,aZ];have:=D.size;lia) (s:={ s with toks:=t' }) D.at_ rfl (zP ?_));refine zW (wpAny_letGo (zP ⟨.none,rfl,?_⟩));refine h _ _ _ (zY S e1 e2 hd (en':=en.eraseIdx i) (m:=m+1) (Heap.SameBut.update ..) ?_ (D.data.erase hi) (by have:=aQ5 (k:=k) (es:=es);have:=D.size;lia));have:=Heap.get?_update_self (Obj.mapDictKeys λx=>x.eraseIdxIfInBounds i) D.at_ rfl;exact this.trans (congrArg some aY2)
theorem wY {Q:Value→Shared→Prop}{d:Addr}(hu:A.units+22 < cLine)(hd:(d==sysModules)=false)(D:DRep w s.heap μ F d en n es)(ko:bM k (es.map (·.1))=true)(rk:cD w s.heap μ F k key)
  (ry:cD w s.heap μ F y v) (h:∀u t',cD w s.heap μ F ((dM k es).getD y) u→Q u { s with toks:=t' }):wpAny (model prog w) A (call (.builtin "dict.get") [.ref d,key,v]) Q E s:=by
 refine wpAny_call_entry PySem.F.slot_dict_get (dT D) PySem.F.entry_dict_get ?_ (PySem.F.args_dict_get_3 _ _ _);show wpAny _ _ (dictGet d key >>= _) _ _ s;refine zW (aH6 (by simp only[Around.in1_units];lia) D ko rk (λhl t'=>?_) λx u hl r t'=>?_)
 ·show wpAny _ _ (Builtin.Dict.missed d key >>= _) _ _ _;refine zW (wpAny_missed_other hd (zP ⟨v,rfl,h v t' ?_⟩));rw[hl];exact ry
 ·refine zP ⟨u,rfl,h u t' ?_⟩;rw[hl];exact r
theorem bm8 {vs:List V}{p:V×H}(e:be5 x vs Y=some p):(∃ks ws k d,x=.dct ks ws∧vs=[k,d]∧aB (dD (bM k ks&&!kT k)) (λ_=>ret ((dM k (ks.zip ws)).getD d)) Y=some p)∨
  ∃n k d,x=.ref n∧vs=[k,d]∧aB (rdD n) (λes=>aB (dD (bM k (es.map (·.1)))) λ_=>ret ((dM k es).getD d)) Y=some p:=by
 refine Fl.opq2 x vs λP hP=>?_;revert e;cases x
 case dct ks ws=>rcases vs with _ | ⟨k,_ | ⟨d,_ | ⟨_,_⟩⟩⟩<;>first | exact λe=>hP _ _ (.inl ⟨_,_,_,_,rfl,rfl,e⟩) | exact aV
 case ref n=>rcases vs with _ | ⟨k,_ | ⟨d,_ | ⟨_,_⟩⟩⟩<;>first | exact λe=>hP _ _ (.inr ⟨_,_,_,rfl,rfl,e⟩) | exact aV
 all_goals exact aV
theorem bm7 {vs:List V}{us:List Value}{Q:Value→Shared→Prop}(hu:A.units+22 < cLine)(S:Sta X w hZ s.heap μ Y)(r:cD w s.heap μ (Fz X μ Y) x u)(rs:bC w s.heap μ (Fz X μ Y) vs us)
  (e:be5 x vs Y=some (z,Y')) (h:cU X w hZ s μ Y Y' z Q):wpAny (model prog w) A (call (.builtin "dict.get") (u::us)) Q E s:=by
 have e1:=bm8 e;clear e;rcases e1 with⟨ks,ws,k,d,rfl,rfl,e⟩ | ⟨n,k,d,rfl,rfl,e⟩
 ·replace e:=aG.mp e;obtain⟨_,_,z0,e⟩:=e;replace z0:=aY.mp z0;obtain⟨y0,rfl⟩:=z0;obtain⟨ko,_⟩:=zB y0;replace e:=aM.mp e;obtain⟨rfl,rfl⟩:=e;obtain⟨key,_,rfl,rk,v,_,rfl,rv,rfl⟩:=rs;obtain⟨a,en,m,rfl,D,hl,hs⟩:=aY7 r;exact wY hu hs D (by rw[aJ4 hl];exact ko) rk rv λu t' r'=>h.ret S r' t'
 ·replace e:=aG.mp e;obtain⟨es,_,z0,e⟩:=e
  first | replace z0:=aY.mp z0 | replace z0:=kU.mp z0
  obtain⟨e2,rfl⟩:=z0;replace e:=aG.mp e;obtain⟨_,_,z1,e⟩:=e
  first | replace z1:=aY.mp z1 | replace z1:=kU.mp z1
  obtain⟨ko,rfl⟩:=z1;replace e:=aM.mp e;obtain⟨rfl,rfl⟩:=e;obtain⟨key,_,rfl,rk,v,_,rfl,rv,rfl⟩:=rs;obtain⟨l,e1,rfl⟩:=r;obtain⟨en,m,D,hd,hs⟩:=S.dict e1 e2;exact wY hu hs D ko rk rv λu t' r'=>h.ret S r' t'
end
structure Stf (X O:Addr→Prop) (w:World) (hZ h:Heap) (μ:List Loc) (Y:H) (h':Heap) (μ':List Loc) (Y':H):Prop where
 pre:μ <+: μ'
 st:Sta X w hZ h' μ' Y'
 keep:∀b o,h.get? b=some o→¬Wr μ Y b→¬O b→h'.get? b=some o
 wr:∀b,Wr μ' Y' b→Wr μ Y b∨h.get? b=none
section
variable {X X' O O':Addr→Prop}{w:World}{hZ h h' h'':Heap}{μ μ' μ'':List Loc}{Y Y' Y'':H}{F F':Addr→Prop}
theorem Stp.toF (x:Stp X w hZ h μ Y h' μ' Y'):Stf X O w hZ h μ Y h' μ' Y':=⟨x.pre,x.st,λb o e f _=>x.keep b o e f,x.wr⟩
theorem aV5 (S:Sta X w hZ h μ Y)(hO:∀b,O b→X b)(k:∀b o,h.get? b=some o→¬Wr μ Y b→¬O b→h'.get? b=some o){b:Addr}(g:h'.get? b=none)(hx:O b→∃o,h'.get? b=some o):Wr μ Y b∨h.get? b=none:=by
 by_cases q:Wr μ Y b
 ·exact .inl q
 ·refine .inr ?_;cases e:h.get? b with
  | none=>rfl
  | some o=>
   by_cases z:O b
   ·obtain⟨o',e'⟩:=hx z;rw[e']at g;cases g
   ·rw[k b o e q z]at g;cases g
theorem Stf.refl (S:Sta X w hZ h μ Y):Stf X O w hZ h μ Y h μ Y:=(Stp.refl S).toF
theorem Stf.trans (hO:∀b,O b→X b)(S:Sta X w hZ h μ Y)(x:Stf X O w hZ h μ Y h' μ' Y')(y:Stf X O w hZ h' μ' Y' h'' μ'' Y''):Stf X O w hZ h μ Y h'' μ'' Y'':=
 ⟨x.pre.trans y.pre,y.st,λb o e f g=>y.keep b o (x.keep b o e f g) (λhw=>(x.wr b hw).elim f λq=>by rw[e]at q;cases q) g,
  λb e=>(y.wr b e).elim (x.wr b) λq=>aV5 S hO x.keep q (λz=>(x.st.frames b (hO b z)).2)⟩
theorem Stf.kept (hO:∀b,O b→X b)(x:Stf X O w hZ h μ Y h' μ' Y'):Kept h μ (Fz X μ Y) h' μ' (Fz X μ' Y'):=
 ⟨x.pre,λb o e f=>⟨x.keep b o e f.1 (λq=>f.2 (hO b q)),λhw=>(x.wr b hw).elim f.1 λq=>(by rw[e]at q;cases q),f.2⟩⟩
theorem Stf.rep (hO:∀b,O b→X b)(x:Stf X O w hZ h μ Y h' μ' Y'){v:V}{u:Value}(r:cD w h μ (Fz X μ Y) v u):cD w h' μ' (Fz X μ' Y') v u:=cD.kept (x.kept hO) _ _ r
theorem Sta.low_fz (S:Sta X w hZ h μ Y){a:Addr}{o:Obj}(e:hZ.get? a=some o):Fz X μ Y a:=by
 refine⟨?_,λx=>by have:=(S.frames a x).1;rw[e]at this;cases this⟩;rintro⟨n,l,o',e1,_,_,q⟩;have:=S.off n l e1;rcases q with rfl | rfl
 ·have:=this.1;rw[e]at this;cases this
 ·have:=this.2.1;rw[e]at this;cases this
theorem Sta.kept0 (S:Sta X w hZ h μ Y):Kept hZ [] (λ_=>True) h μ (Fz X μ Y):=⟨List.nil_prefix,λb o e _=>⟨S.base b o e,S.low_fz e⟩⟩
theorem Sta.own (S:Sta X w hZ h μ Y){a:Addr}(hx:X a)(sb:Heap.SameBut a h h')(hz:∃o,h'.get? a=some o):Sta X w hZ h' μ Y:=by
 have K:Kept h μ (Fz X μ Y) h' μ (Fz X μ Y):=⟨List.prefix_refl _,λb o e f=>⟨(sb.2 b λq=>f.2 (q▸hx)).trans e,f⟩⟩;have ex:∀b,(∃o,h.get? b=some o)→∃o,h'.get? b=some o:=λb ⟨o,e⟩=>by
  by_cases q1:b=a
  ·rw[q1];exact hz
  ·exact⟨o,(sb.2 b q1).trans e⟩
 refine⟨S.len,λn l o e1 e2=>?_,S.apart,λb o e=>(sb.2 b λq=>?_).trans (S.base b o e),S.low,λn l e=>⟨(S.off n l e).1,(S.off n l e).2.1,ex _ (S.off n l e).2.2.1,ex _ (S.off n l e).2.2.2⟩,λb x=>⟨(S.frames b x).1,ex _ (S.frames b x).2⟩,S.offX⟩
 ·have ox:=S.offX n l e1
  exact(S.obj n l o e1 e2).carry K (λx e=>(sb.2 _ λq=>ox.1 (by rw[q];exact hx)).trans e) (λx e=>(sb.2 _ λq=>ox.2 (by rw[q];exact hx)).trans e)
 ·subst q;have:=(S.frames _ hx).1;rw[e]at this;cases this
theorem Stf.own (S:Sta X w hZ h μ Y){a:Addr}(ho:O a)(hO:∀b,O b→X b)(sb:Heap.SameBut a h h')(hz:∃o,h'.get? a=some o):Stf X O w hZ h μ Y h' μ Y:=
 ⟨List.prefix_refl _,S.own (hO a ho) sb hz,λb o e _ q=>(sb.2 b λz=>q (z▸ho)).trans e,λ_ x=>.inl x⟩
theorem Sta.frame (S:Sta X w hZ h μ Y)(hk:∀b o,h.get? b=some o→h'.get? b=some o)(hX:∀b,X b→X' b)(hX':∀b,X' b→X b∨(h.get? b=none∧∃o,h'.get? b=some o)):Sta X' w hZ h' μ Y:=by
 have K:Kept h μ (Fz X μ Y) h' μ (Fz X' μ Y):=⟨List.prefix_refl _,λb o e f=>⟨hk b o e,f.1,λx=>(hX' b x).elim f.2 λq=>(by rw[e]at q;cases q.1)⟩⟩;refine⟨S.len,λn l o e1 e2=>(S.obj n l o e1 e2).carry K (λx=>hk _ x) (λx=>hk _ x),S.apart,λb o e=>hk _ _ (S.base b o e),S.low,
  λn l e=>⟨(S.off n l e).1,(S.off n l e).2.1,(S.off n l e).2.2.1.imp λo e=>hk _ o e,(S.off n l e).2.2.2.imp λo e=>hk _ o e⟩,λb x=>?_,λn l e=>?_⟩
 ·rcases hX' b x with q | q
  ·exact⟨(S.frames b q).1,(S.frames b q).2.imp λo e=>hk _ o e⟩
  ·exact⟨S.none0 q.1,q.2⟩
 ·have o1:=S.offX n l e;have o2:=S.off n l e
  exact⟨λx=>(hX' _ x).elim o1.1 λq=>(by obtain⟨o,e⟩:=o2.2.2.1;rw[e]at q;cases q.1),λx=>(hX' _ x).elim o1.2 λq=>(by obtain⟨o,e⟩:=o2.2.2.2;rw[e]at q;cases q.1)⟩
theorem Kept.frame (S:Sta X w hZ h μ Y)(hk:∀b o,h.get? b=some o→h'.get? b=some o)(hX':∀b,X' b→X b∨(h.get? b=none∧∃o,h'.get? b=some o)):Kept h μ (Fz X μ Y) h' μ (Fz X' μ Y):=
 ⟨List.prefix_refl _,λb o e f=>⟨hk b o e,f.1,λx=>(hX' b x).elim f.2 λq=>(by rw[e]at q;cases q.1)⟩⟩
theorem Fz.mono (hX:∀b,X b→X' b){a:Addr}(f:Fz X' μ Y a):Fz X μ Y a:=⟨f.1,λx=>f.2 (hX a x)⟩
theorem Kept.less (hX:∀b,X b→X' b):Kept h μ (Fz X' μ Y) h μ (Fz X μ Y):=⟨List.prefix_refl _,λb o e f=>⟨e,f.mono hX⟩⟩
theorem Sta.less (S:Sta X' w hZ h μ Y)(hX:∀b,X b→X' b):Sta X w hZ h μ Y:=
 ⟨S.len,λn l o e1 e2=>(S.obj n l o e1 e2).carry (Kept.less hX) (λ_ x=>x) (λ_ x=>x),S.apart,S.base,S.low,S.off,λa x=>S.frames a (hX a x),λn l e=>⟨λx=>(S.offX n l e).1 (hX _ x),λx=>(S.offX n l e).2 (hX _ x)⟩⟩
theorem Stp.over (hk:∀b o,h.get? b=some o→h'.get? b=some o)(hX:∀b,X b→X' b)(hO:∀b,O b→h.get? b=none)
  (x:Stf X' O w hZ h' μ Y h'' μ'' Y''):Stp X w hZ h μ Y h'' μ'' Y'':=
 ⟨x.pre,x.st.less hX,λb o e f=>x.keep b o (hk b o e) f (λq=>by rw[hO b q]at e;cases e),λb e=>(x.wr b e).imp id λq=>by
  cases e':h.get? b with
  | none=>rfl
  | some o=>rw[hk b o e']at q;cases q⟩
end
structure FrameAt (X O:Addr→Prop) (w:World) (sc:Scope) (env:Env) (h:Heap) (μ:List Loc) (F:Addr→Prop) (ρ:LE):Prop where
 ok:aG2 sc=true
 kind:env.scope.kind=.function
 loc:∀x,sc.names.lookup x=some .local→env.kindOf x=some .local
 cel:∀x,sc.names.lookup x=some .cell→env.kindOf x=some .cell
 fre:∀x,sc.names.lookup x=some .free→env.kindOf x=some .cell∨env.kindOf x=some .free
 glo:∀x,sc.names.lookup x=some .globalImplicit→env.kindOf x=some .globalImplicit
 globals:env.globals=mainGlobals
 builtins:env.builtins=builtinsNs
 own:∀b,O b→X b
 ownL:O env.locals
 ownC:∀x,sc.names.lookup x=some .cell→∃c v,env.cells.lookup x=some c∧O c∧h.IsCell c v
 inX:∀x c,env.cells.lookup x=some c→X c
 apart:∀x y c,sc.names.lookup x=some .cell→env.cells.lookup x=some c→env.cells.lookup y=some c→x=y
 apartL:∀x c,env.cells.lookup x=some c→c≠env.locals
 ns:∃m,h.Ns env.locals m∧∀x v,sc.names.lookup x=some .local→ρ x=some v→∃u,m x=some u∧cD w h μ F v u
 cells:∀x v,(sc.names.lookup x=some .cell∨sc.names.lookup x=some .free)→ρ x=some v→∃c u,env.cells.lookup x=some c∧h.IsCell c (some u)∧cD w h μ F v u
theorem cQ {α:Type}{x:Str}{k:α}:∀{l:List (Str×α)},l.lookup x=some k→(x,k)∈l:=by
 intro ll
 induction ll with
 | nil=>
  intro e;simp at e
 | cons p0 r ih=>
  intro e;obtain⟨y,j⟩:=p0;rw[List.lookup_cons]at e;cases q:x==y with
  | true=>rw[q]at e;cases e;rw[eq_of_beq q];exact zS
  | false=>rw[q]at e;exact zC _ (ih e)
theorem oB {sc:Scope}{x:Str}{k:NameKind}(ok:aG2 sc=true)(e:sc.names.lookup x=some k):(x==("__debug__":Str))=false∧(x==("__classdict__":Str))=false:=by
 unfold aG2 at ok;simp only[Bool.and_eq_true,List.all_eq_true,bne_iff_ne]at ok;have:=ok.1.1.2 _ (cQ e);exact⟨beq_eq_false_iff_ne.mpr this.1,beq_eq_false_iff_ne.mpr this.2⟩
section
variable {X O:Addr→Prop}{w:World}{h h' hZ:Heap}{μ μ':List Loc}{F F':Addr→Prop}{A:Around}{E:Value→Shared→Prop}{s:Shared}{Y Y':H}{sc:Scope}{env:Env}{ρ ρ':LE}{x:Str}{v z:V}{u:Value}
theorem Sta.notWr (S:Sta X w hZ h μ Y){a:Addr}(x:X a):¬Wr μ Y a:=by
 rintro⟨n,l,o,e1,_,_,q⟩;have:=S.offX n l e1;rcases q with rfl | rfl
 ·exact this.1 x
 ·exact this.2 x
theorem FrameAt.step (f:FrameAt X O w sc env h μ (Fz X μ Y) ρ)(S:Sta X w hZ h μ Y)(x:Stp X w hZ h μ Y h' μ' Y'):FrameAt X O w sc env h' μ' (Fz X μ' Y') ρ:=by
 have kp:∀a,X a→∀o,h.get? a=some o→h'.get? a=some o:=λa xa o e=>x.keep a o e (S.notWr xa);have kc:∀a v,X a→h.IsCell a v→h'.IsCell a v:=λa v xa ⟨o,e,d⟩=>⟨o,kp a xa o e,d⟩;refine⟨f.ok,f.kind,f.loc,f.cel,f.fre,f.glo,f.globals,f.builtins,f.own,f.ownL,λy hy=>?_,f.inX,f.apart,f.apartL,?_,λy v hy e=>?_⟩
 ·obtain⟨c,v,e1,e2,e3⟩:=f.ownC y hy;exact⟨c,v,e1,e2,kc _ _ (f.own _ e2) e3⟩
 ·obtain⟨m,hn,hm⟩:=f.ns;obtain⟨o,es,ep,ho,hd⟩:=hn;refine⟨m,⟨o,es,ep,kp _ (f.own _ f.ownL) _ ho,hd⟩,λy v hy e=>?_⟩;obtain⟨u,hu,r⟩:=hm y v hy e;exact⟨u,hu,x.rep r⟩
 ·obtain⟨c,u,e1,e2,r⟩:=f.cells y v hy e;exact⟨c,u,e1,kc _ _ (f.inX _ _ e1) e2,x.rep r⟩
theorem FrameAt.store {Q:Unit→Shared→Prop}(f:FrameAt X O w sc env s.heap μ (Fz X μ Y) ρ)(S:Sta X w hZ s.heap μ Y)(hx:fG sc x=true)(r:cD w s.heap μ (Fz X μ Y) v u)
  (h:∀h' t',Stf X O w hZ s.heap μ Y h' μ Y→FrameAt X O w sc env h' μ (Fz X μ Y) (upd ρ x v)→Q () { s with heap:=h',toks:=t' }) :
  wpAny (model prog w) A (storeName env x u) Q E s:=by
 have hk:=am6 hx;have cellX:∀{y c},env.cells.lookup y=some c→X c:=f.inX _ _;rcases hk with hk | hk
 ·obtain⟨m,hn,hm⟩:=f.ns;refine wpAny_storeName_local (f.loc x hk) hn (λh' hn' sb=>?_) (by rw[f.kind];rfl);have st:Stf X O w hZ s.heap μ Y h' μ Y:=Stf.own S f.ownL f.own sb (let ⟨o,_,_,e,_⟩:=hn';⟨o,e⟩);have cl:∀{y c v},env.cells.lookup y=some c→s.heap.IsCell c v→h'.IsCell c v:=λe hc=>hc.sameBut sb (f.apartL _ _ e);refine h h' _ st ⟨f.ok,f.kind,f.loc,f.cel,f.fre,f.glo,f.globals,f.builtins,f.own,f.ownL,λy hy=>?_,f.inX,f.apart,f.apartL,⟨_,hn',λy v' hy e=>?_⟩,λy v' hy e=>?_⟩
  ·obtain⟨c,v,e1,e2,e3⟩:=f.ownC y hy;exact⟨c,v,e1,e2,cl e1 e3⟩
  ·clear h cl;unfold upd at e;by_cases q:y=x
   ·rw[if_pos q]at e;cases e;exact⟨u,if_pos q,st.rep f.own r⟩
   ·rw[if_neg q]at e;obtain⟨u',hu,r'⟩:=hm y v' hy e;exact⟨u',by rw[if_neg q];exact hu,st.rep f.own r'⟩
  ·have q:y≠x:=by clear h cl;rintro rfl;rw[hk]at hy;rcases hy with hy | hy<;>cases hy
   unfold upd at e;rw[if_neg q]at e;obtain⟨c,u',e1,e2,r'⟩:=f.cells y v' hy e;exact⟨c,u',e1,cl e1 e2,st.rep f.own r'⟩
 ·obtain⟨c,v₀,e1,e2,e3⟩:=f.ownC x hk;refine wpAny_storeName_cell f.kind (f.cel x hk) e1 e3 λh' hc sb=>?_;have st:Stf X O w hZ s.heap μ Y h' μ Y:=Stf.own S e2 f.own sb (let ⟨o,e,_⟩:=hc;⟨o,e⟩);have cl:∀{y c' v},y≠x→env.cells.lookup y=some c'→s.heap.IsCell c' v→h'.IsCell c' v:=λq e hc=>hc.sameBut sb λz=>q (f.apart x _ c hk e1 (z▸e)).symm;refine h h' s.toks st ⟨f.ok,f.kind,f.loc,f.cel,f.fre,f.glo,f.globals,f.builtins,f.own,f.ownL,λy hy=>?_,f.inX,f.apart,f.apartL,?_,λy v' hy e=>?_⟩
  ·by_cases q:y=x
   ·exact⟨c,_,q▸e1,e2,hc⟩
   ·obtain⟨c',v,d1,d2,d3⟩:=f.ownC y hy;exact⟨c',v,d1,d2,cl q d1 d3⟩
  ·obtain⟨m,hn,hm⟩:=f.ns;refine⟨m,hn.sameBut sb (Ne.symm (f.apartL x c e1)),λy v' hy e=>?_⟩;have q:y≠x:=by clear h cl;rintro rfl;rw[hk]at hy;cases hy
   unfold upd at e;rw[if_neg q]at e;obtain⟨u',hu,r'⟩:=hm y v' hy e;exact⟨u',hu,st.rep f.own r'⟩
  ·unfold upd at e;by_cases q:y=x
   ·rw[if_pos q]at e;exact⟨c,u,q▸e1,hc,Option.some.inj e▸st.rep f.own r⟩
   ·rw[if_neg q]at e;obtain⟨c',u',d1,d2,r'⟩:=f.cells y v' hy e;exact⟨c',u',d1,cl q d1 d2,st.rep f.own r'⟩
end
section
variable {X:Addr→Prop}{w:World}{h h' hZ:Heap}{μ μ':List Loc}{F F':Addr→Prop}{A:Around}{E:Value→Shared→Prop}{s:Shared}{Y Y':H}{x y z:V}{u v:Value}{Q:Value→Shared→Prop}{c:Bool}
theorem pL {f:Int→Int→Bool}:pM f x y Y=some (c,Y')↔∃a b,x=.int a∧y=.int b∧c=f a b∧Y=Y':=by
 constructor
 ·intro e;refine Fl.opq2 x y λP hP=>?_;revert e;cases x
  case int a=>
   cases y
   case int b=>exact λe=>hP _ _ ⟨a,b,rfl,rfl,aM.mp e⟩
   all_goals exact aV
  all_goals exact aV
 ·rintro⟨a,b,rfl,rfl,rfl,rfl⟩;rfl
theorem af8 (hb:oC x=true)(r:cD w h μ F x u):plainIs u .none=true:=by
 cases x
 ·subst r;rfl
 ·subst r;rfl
 ·obtain⟨t,rfl⟩:=r;rfl
 ·obtain⟨t,rfl⟩:=r;rfl
 ·obtain⟨_,_,_,rfl,_⟩:=r;rfl
 ·obtain⟨_,_,_,rfl,_⟩:=r;rfl
 ·obtain⟨_,_,_,rfl,_⟩:=r;rfl
 ·obtain⟨_,_,rfl⟩:=r;rfl
 ·subst r;rfl
 ·subst r;rfl
 ·exact oN hb
 ·subst r;rfl
 ·obtain⟨_,_,_,_,rfl,_⟩:=r;rfl
theorem bd4 {neg:Bool}(hu:A.units+22 < cLine)(S:Sta X w hZ s.heap μ Y)(r:cD w s.heap μ (Fz X μ Y) x u)(q:cD w s.heap μ (Fz X μ Y) y v)(e:inV x y Y=some (c,Y'))
  (h:∀t',Y=Y'→Q (.bool (if neg then !c else c)) { s with toks:=t' }):wpAny (model prog w) A (compareOp (if neg then .NotIn else .In) u v) Q E s:=by
 have q0:=bH7 e;clear e;rcases q0 with⟨es,xs,rfl | rfl,e⟩ | ⟨n,o,rfl,e2,e⟩
 ·obtain⟨a,vs,n,rfl,_,g,l,_⟩:=q;exact yJ (Nat.lt_trans (Nat.add_lt_add_left (by decide) _) hu) r l (.inr g) e (h s.toks es)
 ·obtain⟨a,vs,n,rfl,_,g,l,_⟩:=q;exact yJ (Nat.lt_trans (Nat.add_lt_add_left (by decide) _) hu) r l (.inl g) e (h s.toks es)
 ·obtain⟨l,e1,rfl⟩:=q;obtain⟨es,q0⟩:=bH8 e;clear e;rcases q0 with⟨xs,rfl,e⟩ | ⟨es',rfl,ko,rfl⟩
  ·obtain⟨vs,n,g,_,rl,z⟩:=S.obj _ _ _ e1 e2;exact yJ (Nat.lt_trans (Nat.add_lt_add_left (by decide) _) hu) r rl (.inl g) e (h s.toks es)
  ·obtain⟨en,m,D,hd,hs⟩:=S.dict e1 e2;exact aX3 hu hs D ko r λt'=>h t' es
theorem ad5 {op:CmpOp}(hu:A.units+22 < cLine)(S:Sta X w hZ s.heap μ Y)(r:cD w s.heap μ (Fz X μ Y) x u)(q:cD w s.heap μ (Fz X μ Y) y v)(e:aK op x y Y=some (c,Y'))
  (h:∀t',Y=Y'→Q (.bool c) { s with toks:=t' }):wpAny (model prog w) A (compareOp op u v) Q E s:=by
 have hu':A.units+20 < cLine:=Nat.lt_trans (Nat.add_lt_add_left (by decide) _) hu;cases op
 ·have e:=bB.mp (show bL (eqv x y) Y=_ from e)
  exact bT2 hu' r q e.1 (h s.toks e.2)
 ·obtain⟨b,_,e0,e'⟩:=aG.mp (show(aB (bL (eqv x y)) λc=>ret !c) Y=_ from e);clear e;obtain⟨e2,rfl⟩:=bB.mp e0;obtain⟨rfl,es⟩:=aM.mp e';exact bQ3 hu' r q e2 (h s.toks es)
 ·obtain⟨a,b,rfl,rfl,rfl,es⟩:=pL.mp (show pM (λa b=>decide (a < b)) x y Y=_ from e);obtain⟨t,rfl⟩:=r;obtain⟨t',rfl⟩:=q;exact wpAny_lt_int (h s.toks es)
 ·obtain⟨a,b,rfl,rfl,rfl,es⟩:=pL.mp (show pM (λa b=>decide (a≤b)) x y Y=_ from e);obtain⟨t,rfl⟩:=r;obtain⟨t',rfl⟩:=q;exact P.le_int (h s.toks es)
 ·obtain⟨a,b,rfl,rfl,rfl,es⟩:=pL.mp (show pM (λa b=>decide (a > b)) x y Y=_ from e);obtain⟨t,rfl⟩:=r;obtain⟨t',rfl⟩:=q;exact P.gt_int (h s.toks es)
 ·obtain⟨a,b,rfl,rfl,rfl,es⟩:=pL.mp (show pM (λa b=>decide (a ≥ b)) x y Y=_ from e);obtain⟨t,rfl⟩:=r;obtain⟨t',rfl⟩:=q;exact P.ge_int (h s.toks es)
 ·obtain⟨_,_,e0,e'⟩:=aG.mp (show(aB (dD (isNone y&&oC x)) λ_=>ret (isNone x)) Y=_ from e);clear e;obtain⟨hn,rfl⟩:=aY.mp e0;obtain⟨hn,hb⟩:=zB hn;obtain⟨rfl,es⟩:=aM.mp e';cases yG hn;subst q;exact wpAny_is_plain (af8 hb r) (by rw[an3 r];exact h s.toks es)
 ·obtain⟨_,_,e0,e'⟩:=aG.mp (show(aB (dD (isNone y&&oC x)) λ_=>ret !(isNone x)) Y=_ from e);clear e;obtain⟨hn,rfl⟩:=aY.mp e0;obtain⟨hn,hb⟩:=zB hn;obtain⟨rfl,es⟩:=aM.mp e';cases yG hn;subst q;exact wpAny_isNot_plain (af8 hb r) (by rw[an3 r];exact h s.toks es)
 ·exact bd4 (neg:=false) hu S r q e h
 ·obtain⟨b,_,e0,e'⟩:=aG.mp (show(aB (inV x y) λc=>ret !c) Y=_ from e);clear e;obtain⟨rfl,es⟩:=aM.mp e';exact bd4 (neg:=true) hu S r q e0 λt' es'=>h t' (es'.trans es)
end
structure AOk (n:Nat) (A:Around):Prop where
 handled:A.handled=none
 depth:A.depth+5 * n+5 < recursionLimit
 units:A.units+20 * n+60 < cLine
structure GlobOk (w:World) (hZ:Heap):Prop where
 ex:∃mg mb,hZ.Ns mainGlobals mg∧hZ.Ns builtinsNs mb∧∀x v,G x=some v→∃u,cD w hZ [] (λ_=>True) v u∧(mg x=some u∨(mg x=none∧mb x=some u))
section
variable (w:World)(hZ:Heap)(X O:Addr→Prop)(A:Around)(sc:Scope)(env:Env)(ρ:LE)
def Pc (m:M V)(t:Sem Value):Prop:=∀(E:Value→Shared→Prop) (s:Shared) (μ:List Loc) (Y Y':H) (x:V) (Q:Value→Shared→Prop),Sta X w hZ s.heap μ Y→FrameAt X O w sc env s.heap μ (Fz X μ Y) ρ→
 m Y=some (x,Y')→cU X w hZ s μ Y Y' x Q→wpAny (model prog w) A t Q E s
def bg3 (s:Shared)(μ:List Loc)(Y Y':H)(b:Bool)(Q:Bool→Shared→Prop):Prop:=∀h' t' μ',Stp X w hZ s.heap μ Y h' μ' Y'→Q b { s with heap:=h',toks:=t' }
def PcB (m:M Bool)(t:Sem Bool):Prop:=∀(E:Value→Shared→Prop) (s:Shared) (μ:List Loc) (Y Y':H) (b:Bool) (Q:Bool→Shared→Prop),Sta X w hZ s.heap μ Y→FrameAt X O w sc env s.heap μ (Fz X μ Y) ρ→
 m Y=some (b,Y')→bg3 w hZ X s μ Y Y' b Q→wpAny (model prog w) A t Q E s
inductive Pcs:List (M V)→List (Sem Value)→Prop
 | nil:Pcs [] []
 | cons {m t ms ts}:Pc w hZ X O A sc env ρ m t→Pcs ms ts→Pcs (m::ms) (t::ts)
end
section
variable {w:World}{hZ:Heap}{X O:Addr→Prop}{A:Around}{sc:Scope}{env:Env}{ρ:LE}{E:Value→Shared→Prop}{s:Shared}{μ μ':List Loc}{Y Y' Y'':H}{x y z:V}{u v:Value}{n:Nat}{h':Heap}{t':Nat}
theorem Pcs.inv {ms:List (M V)}{ts:List (Sem Value)}(r:Pcs w hZ X O A sc env ρ ms ts):(ms=[]∧ts=[])∨∃m' ms' t' ts',ms=m'::ms'∧ts=t'::ts':=by
 cases r with
 | nil=>exact .inl ⟨rfl,rfl⟩
 | cons _ _=>exact .inr ⟨_,_,_,_,rfl,rfl⟩
theorem cU.after {Q:Value→Shared→Prop}(st:Stp X w hZ s.heap μ Y h' μ' Y')(h:cU X w hZ s μ Y Y'' x Q):cU X w hZ { s with heap:=h',toks:=t' } μ' Y' Y'' x Q:=
 λv h'' t'' μ'' st' r=>h v h'' t'' μ'' (st.trans st') r
theorem bg3.after {Q:Bool→Shared→Prop}{b:Bool}(st:Stp X w hZ s.heap μ Y h' μ' Y')(h:bg3 w hZ X s μ Y Y'' b Q):bg3 w hZ X { s with heap:=h',toks:=t' } μ' Y' Y'' b Q:=
 λh'' t'' μ'' st'=>h h'' t'' μ'' (st.trans st')
theorem cU.now {Q:Value→Shared→Prop}(S:Sta X w hZ s.heap μ Y)(h:cU X w hZ s μ Y Y x Q)(r:cD w s.heap μ (Fz X μ Y) x v):Q v s:=h v s.heap s.toks μ (Stp.same S) r
theorem aY9 {c:Const}(e:aZ0 c Y=some (x,Y')):(c=.none∧x=.none∧Y=Y')∨(∃b,c=.bool b∧x=.bool b∧Y=Y')∨(∃i,c=.int i∧x=.int i∧Y=Y')∨∃t,c=.str t∧x=.str t∧Y=Y':=by
 refine Fl.opq1 c λP hP=>?_;revert e;cases c
 case none=>exact λe=>hP _ (.inl ⟨rfl,aM.mp e⟩)
 case bool b=>exact λe=>hP _ (.inr (.inl ⟨b,rfl,aM.mp e⟩))
 case int b=>exact λe=>hP _ (.inr (.inr (.inl ⟨b,rfl,aM.mp e⟩)))
 case str b=>exact λe=>hP _ (.inr (.inr (.inr ⟨b,rfl,aM.mp e⟩)))
 all_goals exact aV
theorem bn0 {c:Const}:Pc w hZ X O A sc env ρ (aZ0 c) (constValue env c):=by
 intro E s μ Y Y' x Q S f e h;have q0:=aY9 e;clear e;rcases q0 with⟨rfl,q⟩ | ⟨b,rfl,q⟩ | ⟨i,rfl,q⟩ | ⟨t,rfl,q⟩<;>obtain⟨rfl,rfl⟩:=q
 ·exact zP (h.now S (qK ..))
 ·exact zP (h.now S (lI ..))
 ·exact wpAny_mkInt (h _ _ _ _ (Stp.same S) (gU ..))
 ·refine wpAny_mkText (h _ _ _ _ (Stp.same S) ?_);show ∃_,_;exact⟨_,rfl⟩
theorem bt8 (GO:GlobOk w hZ){id:Str}{pos:Pos}:Pc w hZ X O A sc env ρ (bc9 sc ρ id) (eval (.Name id pos) env):=by
 intro E s μ Y Y' x Q S f e h;unfold bc9 at e;cases hk:sc.names.lookup id with
 | none=>rw[hk]at e;exact aV e
 | some k=>
 rw[hk]at e;cases k
 case «local»=>
  obtain⟨e0,rfl⟩:=bB.mp e;obtain⟨m,hn,hm⟩:=f.ns;obtain⟨u,hu,r⟩:=hm id x hk e0;exact wpAny_Name (wpAny_loadName_local f.kind (f.loc id hk) hn hu (h.now S r)) (oB f.ok hk).1
 case cell=>
  obtain⟨e0,rfl⟩:=bB.mp e;obtain⟨c,u,e1,e2,r⟩:=f.cells id x (.inl hk) e0;exact wpAny_Name (wpAny_loadName_cell f.kind (f.cel id hk) e1 e2 (h.now S r)) (oB f.ok hk).1
 case free=>
  obtain⟨e0,rfl⟩:=bB.mp e;obtain⟨c,u,e1,e2,r⟩:=f.cells id x (.inr hk) e0;refine wpAny_Name ?_ (oB f.ok hk).1;rcases f.fre id hk with q | q
  ·exact wpAny_loadName_cell f.kind q e1 e2 (h.now S r)
  ·exact wpAny_loadName_free f.kind q e1 e2 (h.now S r) (oB f.ok hk).2
 case globalImplicit=>
  obtain⟨e0,rfl⟩:=bB.mp e;obtain⟨mg,mb,ng,nb,hg⟩:=GO.ex;obtain⟨u,r,hu⟩:=hg id x e0;have r':=cD.kept S.kept0 _ _ r;have ng':s.heap.Ns env.globals mg:=by rw[f.globals];exact ng.keeps S.base
  have nb':s.heap.Ns env.builtins mb:=by rw[f.builtins];exact nb.keeps S.base
  refine Calls.Name_function_global f.kind (f.glo id hk) ?_ (oB f.ok hk).1;rcases hu with hu | ⟨h1,h2⟩
  ·exact Calls.loadGlobal_global ng' hu (h.now S r')
  ·exact Calls.loadGlobal_builtin ng' h1 nb' h2 (h.now S r')
 all_goals exact aV e
theorem bo1 {l r:Expr}{op:Operator}{pos:Pos}{m k:M V}(hl:Pc w hZ X O A sc env ρ m (eval l env))(hr:Pc w hZ X O A sc env ρ k (eval r env)) :
  Pc w hZ X O A sc env ρ (aB m λa=>aB k λb=>i8 op a b) (eval (.BinOp l op r pos) env):=by
 intro E s μ Y Y' x Q S f e h;replace e:=aG.mp e;obtain⟨a,Y₁,e1,e⟩:=e;replace e:=aG.mp e;obtain⟨b,Y₂,e2,e3⟩:=e;refine wpAny_BinOp (hl _ _ _ _ _ _ _ S f e1 λva h1 t1 μ1 st1 ra=>hr _ _ _ _ _ _ _ st1.st (f.step S st1) e2 λvb h2 t2 μ2 st2 rb=>?_);exact bK7 st2.st (st2.rep ra) rb e3 ((h.after st1).after st2)
theorem bG0 {r:Expr}{pos:Pos}{k:M V}(hr:Pc w hZ X O A sc env ρ k (eval r env)) :
  Pc w hZ X O A sc env ρ (aB k λv=>aB (aS v) λb=>ret (.bool !b)) (eval (.UnaryOp .Not r pos) env):=by
 intro E s μ Y Y' x Q S f e h;replace e:=aG.mp e;obtain⟨a,Y₁,e1,e⟩:=e;replace e:=aG.mp e;obtain⟨b,Y₂,e2,e⟩:=e;replace e:=aM.mp e;obtain⟨rfl,rfl⟩:=e;refine UnaryOp_ (hr _ _ _ _ _ _ _ S f e1 λva h1 t1 μ1 st1 ra=>not_of (xE st1.st ra e2 λt'=>?_));rw[uK e2]at h;exact h _ _ _ _ st1 (lI ..)
theorem bG4 {r:Expr}{pos:Pos}{k:M V}(hr:Pc w hZ X O A sc env ρ k (eval r env)) :
  Pc w hZ X O A sc env ρ (aB k λv=>aB (bL (cA v)) λi=>ret (.int (-i))) (eval (.UnaryOp .USub r pos) env):=by
 intro E s μ Y Y' x Q S f e h;replace e:=aG.mp e;obtain⟨a,Y₁,e1,e⟩:=e;replace e:=aG.mp e;obtain⟨b,Y₂,z1,e⟩:=e;replace z1:=bB.mp z1;obtain⟨e2,rfl⟩:=z1;replace e:=aM.mp e;obtain⟨rfl,rfl⟩:=e;refine UnaryOp_ (hr _ _ _ _ _ _ _ S f e1 λva h1 t1 μ1 st1 ra=>?_);cases yH e2;obtain⟨t,rfl⟩:=ra;exact P.neg_int (h _ _ _ _ st1 (gU ..))
theorem bl4 {t b o:Expr}{pos:Pos}{c:M Bool}{m k:M V}(ht:PcB w hZ X O A sc env ρ c (isTrue t env (eval t env)))(hb:Pc w hZ X O A sc env ρ m (eval b env))(ho:Pc w hZ X O A sc env ρ k (eval o env)) :
  Pc w hZ X O A sc env ρ (aB c λc=>if c then m else k) (eval (.IfExp t b o pos) env):=by
 intro E s μ Y Y' x Q S f e h;replace e:=aG.mp e;obtain⟨a,Y₁,e1,e2⟩:=e;refine IfExp_ (ht _ _ _ _ _ _ _ S f e1 λh1 t1 μ1 st1=>?_);cases a
 ·exact ho _ _ _ _ _ _ _ st1.st (f.step S st1) e2 (h.after st1)
 ·exact hb _ _ _ _ _ _ _ st1.st (f.step S st1) e2 (h.after st1)
set_option backward.match.sparseCases true in
theorem aZ9 {op:BoolOp}{pos:Pos}:∀{ms:List (M V)} {ts:List (Sem Value)},Pcs w hZ X O A sc env ρ ms ts→Pc w hZ X O A sc env ρ (aq1 op ms) (boolOp pos op ts):=by
 intro ms ts p
 induction p with
 | nil=>exact λ_ _ _ _ _ _ _ _ _ e _=>aV e
 | @cons m t _ _ hp r ih=>
  cases r with
  | nil=>exact hp
  | @cons m' t' ms' ts' hp' r=>
  intro E s μ Y Y' x Q S f e h;have e':(aB m λv=>aB (aS v) λt=>if(op=.And)=(t=true)then aq1 op (m'::ms')else ret v) Y=some (x,Y'):=e;replace e':=aG.mp e';obtain⟨a,Y₁,e1,e'⟩:=e';replace e':=aG.mp e';obtain⟨b,Y₂,e2,e3⟩:=e';show wpAny _ _ (do
   let v ←t
   standAt pos
   let c ←holding [v] (truthy v)
   match op,c with
   | .And,false | .Or,true=>pure v
   | _,_=>boolOp pos op (t'::ts')) _ _ _
  refine zW (hp _ _ _ _ _ _ _ S f e1 λva h1 t1 μ1 st1 ra=>zW (wpAny_standAt (zW (wpAny_holding (xE st1.st ra e2 λt''=>?_)))));have es:=uK e2;subst es;have go:∀{Y''},Y₂=Y''→Y''=Y'→x=a→Q va { s with heap:=h1,toks:=t'' }:=by
   rintro _ rfl rfl rfl;exact h _ _ _ _ st1 ra
  have on:aq1 op (m'::ms') Y₂=some (x,Y')→wpAny (model prog w) A (boolOp pos op (t'::ts')) Q E { s with heap:=h1,toks:=t'' }:=λe3=>
   ih _ _ _ _ _ _ _ st1.st (f.step S st1) e3 (cU.after (s:=s) st1 h)
  cases op<;>cases b
  ·rw[if_neg (by simp),aM]at e3;exact zP (go rfl e3.2 e3.1)
  ·rw[if_pos (by simp)]at e3;exact on e3
  ·rw[if_pos (by simp)]at e3;exact on e3
  ·rw[if_neg (by simp),aM]at e3;exact zP (go rfl e3.2 e3.1)
theorem bn4 {pos:Pos}(hu:A.units+22 < cLine){ms:List (M V)}{ts:List (Sem Value)}(hp:Pcs w hZ X O A sc env ρ ms ts):∀{ops:List CmpOp} {a:V} {va:Value} {E:Value→Shared→Prop} {s:Shared} {μ:List Loc} {Y Y':H} {b:Bool} {Q:Value→Shared→Prop},
  Sta X w hZ s.heap μ Y→FrameAt X O w sc env s.heap μ (Fz X μ Y) ρ→cD w s.heap μ (Fz X μ Y) a va→iX a ops ms Y=some (b,Y')→(∀h' t' μ',Stp X w hZ s.heap μ Y h' μ' Y'→Q (.bool b) { s with heap:=h',toks:=t' })→
   wpAny (model prog w) A (compareChain pos va ops ts) Q E s:=by
 induction hp with
 | nil=>
  intro ops a va E s μ Y Y' b Q S f ra e h;rcases ops with _ | ⟨o,_ | ⟨o2,r⟩⟩<;>exact aV e
 | @cons m t ms ts hp r ih=>
  intro ops a va E s μ Y Y' b Q S f ra e h;rcases ops with _ | ⟨op,_ | ⟨op',ops⟩⟩
  ·exact aV e
  ·cases r.inv with
   | inl q=>
    rw[q.1]at e;rw[q.2];clear ih;obtain⟨y,Y₁,e1,e2⟩:=aG.mp (show(aB m λb=>aK op a b) Y=some (b,Y')from e);show wpAny _ _ (do
     let rv ←holding [va] t
     standAt pos
     operate [va,rv] (compareOp op va rv)) _ _ _
    refine zW (wpAny_holding (hp _ _ _ _ _ _ _ S f e1 λvb h1 t1 μ1 st1 rb=>zW (wpAny_standAt (wpAny_operate' (ad5 hu st1.st (st1.rep ra) rb e2 λt' es=>?_)))));exact h _ _ _ (es▸st1)
   | inr q=>obtain⟨_,_,_,_,q,_⟩:=q;rw[q]at e;exact aV e
  ·cases r.inv with
   | inl q=>rw[q.1]at e;exact aV e
   | inr q=>
    clear r;obtain⟨m',ms',t',ts',rfl,rfl⟩:=q;obtain⟨y,Y₁,e1,e⟩:=aG.mp (show(aB m λb=>aB (aK op a b) λc=>if c then iX b (op'::ops) (m'::ms')else ret false) Y=some (b,Y')from e);obtain⟨c,Y₂,e2,e3⟩:=aG.mp e;refine chain_link (hp _ _ _ _ _ _ _ S f e1 λvb h1 t1 μ1 st1 rb=>ad5 hu st1.st (st1.rep ra) rb e2 λt' es=>wpAny_truthy_bool ?_);rw[←es]at e3;clear e1 e2 e;cases c
    ·clear ih;obtain⟨e4,e5⟩:=aM.mp (show ret false Y₁=some (b,Y')from e3);have h4:=h h1 t' μ1 (e5▸st1);rw[e4]at h4;exact h4
    ·exact ih st1.st (f.step S st1) rb e3 λh2 t2 μ2 st2=>h _ _ _ (st1.trans st2)
theorem aR0 {l:Expr}{rs:List Expr}{ops:List CmpOp}{pos:Pos}{m:M V}{ms:List (M V)}(hu:A.units+22 < cLine)(hl:Pc w hZ X O A sc env ρ m (eval l env))(hr:Pcs w hZ X O A sc env ρ ms (evalEach rs env))
  : Pc w hZ X O A sc env ρ (aB (dD (!lastMarks ops rs)) λ_=>aB m λa=>aB (iX a ops ms) λb=>ret (.bool b)) (eval (.Compare l ops rs pos) env):=by
 intro E s μ Y Y' x Q S f e h;simp only[aG,aM,aY,Bool.not_eq_true']at e;obtain⟨_,_,⟨hm,rfl⟩,a,Y₁,e1,b,Y₂,e2,rfl,rfl⟩:=e;show wpAny _ _ (do compareChain pos (←eval l env) ops (markedEach ops rs (evalEach rs env))) _ _ _;rw[markedEach_of_false _ _ _ hm];refine zW (hl _ _ _ _ _ _ _ S f e1 λva h1 t1 μ1 st1 ra=>bn4 hu hr st1.st (f.step S st1) ra e2 λh2 t2 μ2 st2=>?_);exact h _ _ _ _ (st1.trans st2) (lI ..)
theorem bq5 {pos:Pos}(hu:A.units+22 < cLine){ms:List (M V)}{ts:List (Sem Value)}(hp:Pcs w hZ X O A sc env ρ ms ts):∀{ops:List CmpOp} {a:V} {va:Value} {E:Value→Shared→Prop} {s:Shared} {μ:List Loc} {Y Y':H} {b:Bool} {Q:Bool→Shared→Prop},
  Sta X w hZ s.heap μ Y→FrameAt X O w sc env s.heap μ (Fz X μ Y) ρ→cD w s.heap μ (Fz X μ Y) a va→iX a ops ms Y=some (b,Y')→(∀h' t' μ',Stp X w hZ s.heap μ Y h' μ' Y'→Q b { s with heap:=h',toks:=t' })→
   wpAny (model prog w) A (testChain pos va ops ts) Q E s:=by
 induction hp with
 | nil=>
  intro ops a va E s μ Y Y' b Q S f ra e h;rcases ops with _ | ⟨o,_ | ⟨o2,r⟩⟩<;>exact aV e
 | @cons m t ms ts hp r ih=>
  intro ops a va E s μ Y Y' b Q S f ra e h;rcases ops with _ | ⟨op,_ | ⟨op',ops⟩⟩
  ·exact aV e
  ·cases r.inv with
   | inl q=>
    rw[q.1]at e;rw[q.2];clear ih;obtain⟨y,Y₁,e1,e2⟩:=aG.mp (show(aB m λb=>aK op a b) Y=some (b,Y')from e);refine test_last (hp _ _ _ _ _ _ _ S f e1 λvb h1 t1 μ1 st1 rb=>ad5 hu st1.st (st1.rep ra) rb e2 λt' es=>wpAny_truthy_bool ?_);exact h _ _ _ (es▸st1)
   | inr q=>obtain⟨_,_,_,_,q,_⟩:=q;rw[q]at e;exact aV e
  ·cases r.inv with
   | inl q=>rw[q.1]at e;exact aV e
   | inr q=>
    clear r;obtain⟨m',ms',t',ts',rfl,rfl⟩:=q;obtain⟨y,Y₁,e1,e⟩:=aG.mp (show(aB m λb=>aB (aK op a b) λc=>if c then iX b (op'::ops) (m'::ms')else ret false) Y=some (b,Y')from e);obtain⟨c,Y₂,e2,e3⟩:=aG.mp e;refine test_link (hp _ _ _ _ _ _ _ S f e1 λvb h1 t1 μ1 st1 rb=>ad5 hu st1.st (st1.rep ra) rb e2 λt' es=>wpAny_truthy_bool ?_);rw[←es]at e3;clear e1 e2 e;cases c
    ·clear ih;obtain⟨e4,e5⟩:=aM.mp (show ret false Y₁=some (b,Y')from e3);have h4:=h h1 t' μ1 (e5▸st1);rw[e4]at h4;exact h4
    ·exact ih st1.st (f.step S st1) rb e3 λh2 t2 μ2 st2=>h _ _ _ (st1.trans st2)
theorem bq7 {r:Expr}{pos:Pos}{whole:Sem Value}{k:M Bool}(hr:PcB w hZ X O A sc env ρ k (isTrue r env (eval r env))) :
  PcB w hZ X O A sc env ρ (aB k λb=>ret !b) (isTrue (.UnaryOp .Not r pos) env whole):=by
 intro E s μ Y Y' x Q S f e h;replace e:=aG.mp e;obtain⟨a,Y₁,e1,e⟩:=e;replace e:=aM.mp e;obtain⟨rfl,rfl⟩:=e;exact isTrue_not (hr _ _ _ _ _ _ _ S f e1 λh1 t1 μ1 st1=>h _ _ _ st1)
theorem bE2 {t b o:Expr}{pos:Pos}{whole:Sem Value}{c m k:M Bool}(ht:PcB w hZ X O A sc env ρ c (isTrue t env (eval t env)))(hb:PcB w hZ X O A sc env ρ m (isTrue b env (eval b env)))(ho:PcB w hZ X O A sc env ρ k (isTrue o env (eval o env))) :
  PcB w hZ X O A sc env ρ (aB c λc=>if c then m else k) (isTrue (.IfExp t b o pos) env whole):=by
 intro E s μ Y Y' x Q S f e h;replace e:=aG.mp e;obtain⟨a,Y₁,e1,e2⟩:=e;refine isTrue_IfExp (ht _ _ _ _ _ _ _ S f e1 λh1 t1 μ1 st1=>?_);cases a
 ·exact ho _ _ _ _ _ _ _ st1.st (f.step S st1) e2 (h.after st1)
 ·exact hb _ _ _ _ _ _ _ st1.st (f.step S st1) e2 (h.after st1)
theorem aU0 {e:Expr}{m:M V}{whole:Sem Value}(hw:Pc w hZ X O A sc env ρ m whole)(he:isTrue e env whole=(do let v ←whole;standAt e.pos;holding [v] (truthy v))) :
  PcB w hZ X O A sc env ρ (aB m aS) (isTrue e env whole):=by
 intro E s μ Y Y' x Q S f e h;replace e:=aG.mp e;obtain⟨a,Y₁,e1,e2⟩:=e;refine isTrue_plain (hw _ _ _ _ _ _ _ S f e1 λva h1 t1 μ1 st1 ra=>xE st1.st ra e2 λt'=>?_) he;rw[uK e2]at h;exact h _ _ _ st1
theorem aE1 {l:Expr}{rs:List Expr}{ops:List CmpOp}{pos:Pos}{m:M V}{ms:List (M V)}{whole:Sem Value}(hu:A.units+22 < cLine)(hl:Pc w hZ X O A sc env ρ m (eval l env))(hr:Pcs w hZ X O A sc env ρ ms (evalEach rs env))
  : PcB w hZ X O A sc env ρ (aB (dD (!lastMarks ops rs)) λ_=>aB m λa=>iX a ops ms) (isTrue (.Compare l ops rs pos) env whole):=by
 intro E s μ Y Y' x Q S f e h;simp only[aG,aY,Bool.not_eq_true']at e;obtain⟨_,_,⟨hm,rfl⟩,a,Y₁,e1,e2⟩:=e;show wpAny _ _ (do testChain pos (←eval l env) ops (markedEach ops rs (evalEach rs env))) _ _ _;rw[markedEach_of_false _ _ _ hm];refine zW (hl _ _ _ _ _ _ _ S f e1 λva h1 t1 μ1 st1 ra=>bq5 hu hr st1.st (f.step S st1) ra e2 λh2 t2 μ2 st2=>?_);exact h _ _ _ (st1.trans st2)
theorem bq8 {op:BoolOp}{pos:Pos}{whole:Sem Value}:PcB w hZ X O A sc env ρ (ret (decide (op=.And))) (isTrue (.BoolOp op [] pos) env whole):=by
 intro E s μ Y Y' x Q S f e h;obtain⟨rfl,rfl⟩:=aM.mp e;cases op
 ·exact isTrue_and_nil (h _ s.toks _ (Stp.same S))
 ·exact isTrue_or_nil (h _ s.toks _ (Stp.same S))
theorem bh2 {op:BoolOp}{pos:Pos}{whole:Sem Value}{e:Expr}{es:List Expr}{c k:M Bool}(hc:PcB w hZ X O A sc env ρ c (isTrue e env (eval e env)))(hk:PcB w hZ X O A sc env ρ k (isTrue (.BoolOp op es pos) env whole)) :
  PcB w hZ X O A sc env ρ (aB c λt=>if(op=.And)=(t=true)then k else ret t) (isTrue (.BoolOp op (e::es) pos) env whole):=by
 intro E s μ Y Y' x Q S f e h;replace e:=aG.mp e;obtain⟨a,Y₁,e1,e2⟩:=e;cases op
 ·refine isTrue_and (hc _ _ _ _ _ _ _ S f e1 λh1 t1 μ1 st1=>?_);cases a
  ·rw[if_neg (by simp),aM]at e2;obtain⟨rfl,rfl⟩:=e2;exact h _ _ _ st1
  ·rw[if_pos (by simp)]at e2;exact hk _ _ _ _ _ _ _ st1.st (f.step S st1) e2 (h.after st1)
 ·refine isTrue_or (hc _ _ _ _ _ _ _ S f e1 λh1 t1 μ1 st1=>?_);cases a
  ·rw[if_pos (by simp)]at e2;exact hk _ _ _ _ _ _ _ st1.st (f.step S st1) e2 (h.after st1)
  ·rw[if_neg (by simp),aM]at e2;obtain⟨rfl,rfl⟩:=e2;exact h _ _ _ st1
end
structure ClsOk (K:Frag) (c:Nat):Prop where
 ga:findIn K (.ref (B.ca c)) "__getattribute__"=some (some (.builtin "object.__getattribute__"))
 gt:findIn K (.ref (B.ca c)) "__getattr__"=some none
 sa:findIn K (.ref (B.ca c)) "__setattr__"=some (some (.builtin "object.__setattr__"))
 over:plainOver K (B.ca c)=true
 hasDict:hasDictIn K (B.ca c)=true
 makes:makesIn K (B.ca c)=true
 keep:keepIn K (.ref (B.ca c))=true
 init:findIn K (.ref (B.ca c)) "__init__"=some (some (.ref (B.fa c 1)))∧typeIn K (.ref (B.fa c 1))=some (.type "function")
 attr:∀x,oO.contains x=true→findIn K (.ref (B.ca c)) x=some none
 meth:∀x j,rJ c x=some j→findIn K (.ref (B.ca c)) x=some (some (.ref (B.fa c j)))∧typeIn K (.ref (B.fa c j))=some (.type "function")
section
variable {X O:Addr→Prop}{w:World}{h h' hZ:Heap}{μ μ':List Loc}{F F':Addr→Prop}{A:Around}{E:Value→Shared→Prop}{s:Shared}{Y Y':H}{n m:Nat}{l:Loc}{x:Str}{y z v:V}{u:Value}{K:Frag}{c:Nat}{fs:List (Str×V)}{en:List DictEntry}
theorem aB2 (a b:Str)(t:Tok):(Value.str a t).isStr b=decide (a=b):=by
 simp only[Value.isStr,w7]
theorem mT:∀{fs:List (Str×V)} {en:List DictEntry},dX w h μ F fs en→(∀v,jW x fs=some v→∃u,getL x en=some (some u)∧cD w h μ F v u)∧(jW x fs=none→getL x en=some none):=by
 intro ll
 induction ll with
 | nil=>
  intro en r;subst r;exact⟨λv e=>aV e,λ_=>rfl⟩
 | cons p fs ih=>
  intro en r;obtain⟨e,t,es,rfl,hk,r1,r2⟩:=r;have ih:=ih r2;have hn:e.refKey=false:=by unfold DictEntry.refKey;rw[hk]
  have key:e.key.isStr x=decide (p.1=x):=by rw[hk];exact aB2 _ _ _
  rw[show jW x (p::fs)=if p.1=x then some p.2 else jW x fs from rfl];unfold getL;by_cases q:p.1=x
  ·rw[if_pos q];rw[decide_eq_true q]at key;simp only[List.find?_cons,key];exact⟨λv e1=>by cases e1;exact⟨_,rfl,r1⟩,λe1=>by cases e1⟩
  ·rw[if_neg q];rw[decide_eq_false q]at key;simp only[List.find?_cons,key,List.any_cons,hn,Bool.false_or];exact ih
theorem aX9 {hsh:Int}{tk:Tok}:∀{fs:List (Str×V)} {en:List DictEntry},dX w h μ F fs en→cD w h μ F v u→dX w h μ F (mZ x v fs) (putL x hsh (.str x tk) u en):=by
 intro ll
 induction ll with
 | nil=>
  intro en r q;subst r;show ∃_,_;exact⟨_,_,_,rfl,rfl,q,rfl⟩
 | cons p fs ih=>
  intro en r q;obtain⟨e,t,es,rfl,hk,r1,r2⟩:=r;have key:e.key.isStr x=decide (p.1=x):=by rw[hk];exact aB2 _ _ _
  rw[show mZ x v (p::fs)=if p.1=x then(p.1,v)::fs else p::mZ x v fs from rfl];unfold putL;by_cases c:p.1=x
  ·rw[if_pos c];rw[decide_eq_true c]at key;rw[if_pos key];show ∃_,_;exact⟨_,t,es,rfl,hk,q,r2⟩
  ·rw[if_neg c];rw[decide_eq_false c]at key;rw[if_neg (by rw[key];simp)];show ∃_,_;exact⟨e,t,_,rfl,hk,r1,ih r2 q⟩
theorem aY0:∀{fs:List (Str×V)} {en:List DictEntry},dX w h μ F fs en→en.length=fs.length:=by
 intro ll
 induction ll with
 | nil=>
  intro en r;subst r;rfl
 | cons p fs ih=>
  intro en r;obtain⟨e,t,es,rfl,hk,r1,r2⟩:=r;simp[ih r2]
theorem bs6 (hsh:Int)(k u:Value):∀(en:List DictEntry),(putL x hsh k u en).length≤en.length+1:=by
 intro ll
 induction ll with
 | nil=>
  simp[putL]
 | cons e r ih=>
  unfold putL;split
  ·simp
  ·have:=ih;simp;lia
theorem aU8 (nd:(fs.map (·.1)).Nodup):((mZ x v fs).map (·.1)).Nodup:=by
 have key:∀fs:List (Str×V),(mZ x v fs).map (·.1)=if x∈fs.map (·.1)then fs.map (·.1)else fs.map (·.1)++[x]:=by
  intro fs
  induction fs with
  | nil=>rfl
  | cons p r ih=>
   rw[show mZ x v (p::r)=if p.1=x then(p.1,v)::r else p::mZ x v r from rfl];by_cases q:p.1=x
   ·rw[if_pos q];simp[q]
   ·rw[if_neg q,List.map_cons,ih];have:¬x=p.1:=λe=>q e.symm;by_cases z:x∈r.map (·.1)
    ·rw[if_pos z,if_pos (by simp only[List.map_cons,List.mem_cons];exact .inr z)];rfl
    ·rw[if_neg z,if_neg (by simp only[List.map_cons,List.mem_cons,not_or];exact⟨this,z⟩)];rfl
 rw[key];split
 ·exact nd
 ·rename_i q;rw[List.nodup_append];refine⟨nd,by simp,λa ha b hb=>?_⟩;simp only[List.mem_singleton]at hb;subst hb;exact λe=>q (e▸ha)
theorem Sta.inst (S:Sta X w hZ h μ Y)(e1:μ[n]?=some l)(e2:Y[n]?=some (.inst c fs)) :
  ∃en k,W.InstAt h l.a (instObj (B.ca c) l.d) (B.ca c) (some (dictOf en k))∧h.get? l.d=some (dictOf en k)∧dX w h μ (Fz X μ Y) fs en∧(fs.map (·.1)).Nodup∧c∈w5:=by
 obtain⟨g,en,k,gd,r,nd,hc⟩:=S.obj _ _ _ e1 e2;exact⟨en,k,⟨g,rfl,rfl,gd⟩,gd,r,nd,hc⟩
theorem aX6 (hb:oC v=true)(r:cD w h μ F v u):handedIn u=true:=by
 cases v
 ·subst r;rfl
 ·subst r;rfl
 ·obtain⟨t,rfl⟩:=r;rfl
 ·obtain⟨t,rfl⟩:=r;rfl
 ·obtain⟨_,_,_,rfl,_⟩:=r;rfl
 ·obtain⟨_,_,_,rfl,_⟩:=r;rfl
 ·obtain⟨_,_,_,rfl,_⟩:=r;rfl
 ·obtain⟨_,_,rfl⟩:=r;rfl
 ·subst r;rfl
 ·subst r;rfl
 ·exact oN hb
 ·subst r;rfl
 ·obtain⟨_,_,_,_,rfl,_⟩:=r;rfl
theorem aS3 {expr:Bool}{Q:Value→Shared→Prop}(K0:K.In hZ)(CO:∀c∈w5,ClsOk K c)(S:Sta X w hZ s.heap μ Y)(r:cD w s.heap μ (Fz X μ Y) y u)(e:aR x y Y=some (v,Y'))(h:cU X w hZ s μ Y Y' v Q) :
  wpAny (model prog w) A (getAttr u x expr) Q E s:=by
 have q0:=jE e;clear e;obtain⟨n,rfl,e⟩:=q0;replace e:=aG.mp e;obtain⟨_,_,z0,e⟩:=e
 first | replace z0:=o3.mp z0 | replace z0:=aY.mp z0 | replace z0:=bB.mp z0
 obtain⟨ha,rfl⟩:=z0;replace e:=aG.mp e;obtain⟨⟨c,fs⟩,_,z1,e⟩:=e
 first | replace z1:=o3.mp z1 | replace z1:=aY.mp z1 | replace z1:=bB.mp z1
 obtain⟨e2,rfl⟩:=z1;replace e:=aG.mp e;obtain⟨_,_,z2,e⟩:=e
 first | replace z2:=o3.mp z2 | replace z2:=aY.mp z2 | replace z2:=bB.mp z2
 obtain⟨e3,rfl⟩:=z2;replace e:=aG.mp e;obtain⟨_,_,z3,e⟩:=e
 first | replace z3:=o3.mp z3 | replace z3:=aY.mp z3 | replace z3:=bB.mp z3
 obtain⟨hb,rfl⟩:=z3;replace e:=aM.mp e;obtain⟨rfl,rfl⟩:=e;obtain⟨l,e1,rfl⟩:=r;obtain⟨en,k,I,gd,rf,nd,hc⟩:=S.inst e1 e2;have ck:=CO c hc;obtain⟨u,hu,ru⟩:=(mT rf).1 v e3;exact get_value (K0.keeps S.base) I ck.ga (findObj_own ck.hasDict (ck.attr x ha) rfl hu) (aX6 hb ru) (h _ _ _ _ (Stp.same S) ru)
theorem bi6 {ox od od':Obj}{C dx xa:Addr}{tk:Tok}{es:List DictEntry}{R:Result→Shared→Prop}(Xk:K.In s.heap)
  (I:W.InstAt s.heap xa ox C (some od)) (hd:ox.dict=some dx) (D:s.heap.get? dx=some od) (hp:plainOver K C=true) (ht:takerIn K C x=some none) (hh:(clsIn K C).any (·.hasDict)=true)
  (hl:(lookIn x od).isSome=true)
  (e:Obj.putName x (PyData.keyHash w.params x) (.str x s.toks) u od=od') (e':od'.data=.dict es.toArray n) (hz:es.length≤1000)
  (h:∀h',Heap.SameBut dx s.heap h'→h'.get? dx=some od'→R (.ok (.ret .none)) { s with heap:=h',toks:=s.toks+1 }) :
  codeAny (model prog w) A (.call (.builtin "object.__setattr__") ⟨[.ref xa,.str x tk,u],[]⟩) R s:=by
 refine osa_open Xk I hp ht λb=>?_;obtain⟨cd,hc,hd'⟩:=any_some hh;have sb:Heap.SameBut dx s.heap (s.heap.update dx (Obj.putName x (PyData.keyHash w.params x) (.str x s.toks) u)):=Heap.SameBut.update ..;have D':(s.heap.update dx (Obj.putName x (PyData.keyHash w.params x) (.str x s.toks) u)).get? dx=some od':=by
  rw[←e];exact Heap.get?_update_self _ D (by rw[e];obtain⟨_,_,dd,_⟩:=od';cases e';rfl)
 obtain⟨hx,hcl,hn,-⟩:=I;obtain⟨oc,odi,oda,osl⟩:=ox;dsimp only at hcl hd;subst hcl hd;refine zW (zP (zW (zW (wpAny_loadPart hx (zW ((looks_clsIn Xk hc).here ?_))))));rw[hd'];refine zP (a:=some dx) (zW (zP (zW ?_)));unfold nsSet;refine zW (zW (wpAny_askSetting (zP (zW (wpAny_mkText (zW (wpAny_loadPart D ?_)))))));unfold lookIn at hl;split at hl
 ·rename_i es₀ n₀ q;rw[q];dsimp only;have c:(!es₀.any (·.key.isStr x)&&es₀.any (·.refKey))=false:=by
   rw[←Array.any_toList,←Array.any_toList];split at hl
   ·rename_i en he;rw[List.any_eq_true.mpr ⟨en,List.mem_of_find?_eq_some he,List.find?_some he⟩];rfl
   ·split at hl
    ·cases hl
    ·rename_i z;rw[Bool.not_eq_true]at z;rw[z,Bool.and_false]
  rw[aRefKeyMayBeTheName_at,c];refine wpAny_updatePart D ?_;refine zW (wpAny_lookBehind D' (by rw[e'];exact pastItsLine_dict (by rw[List.size_toArray,sizeLine_eq];lia)) ?_);exact zP (h _ sb D')
 ·cases hl
theorem yW {Q:Unit→Shared→Prop}(K0:K.In hZ)(CO:∀c∈w5,ClsOk K c)(S:Sta X w hZ s.heap μ Y)(r:cD w s.heap μ (Fz X μ Y) y z')(rv:cD w s.heap μ (Fz X μ Y) v u)(e:bH x v y Y=some ((),Y'))(h:bg2 X w hZ s μ Y Y' Q) :
  wpAny (model prog w) A (setAttr z' x u) Q E s:=by
 have q0:=jE e;clear e;obtain⟨n,rfl,e⟩:=q0;replace e:=aG.mp e;obtain⟨_,_,z0,e⟩:=e
 first | replace z0:=o3.mp z0 | replace z0:=aY.mp z0
 obtain⟨ha,rfl⟩:=z0
 try replace ha:=zD ha
 replace e:=aG.mp e;obtain⟨⟨c,fs⟩,_,z1,e⟩:=e
 first | replace z1:=o3.mp z1 | replace z1:=aY.mp z1
 obtain⟨e2,rfl⟩:=z1
 try replace e2:=zD e2
 replace e:=aG.mp e;obtain⟨_,_,z2,e⟩:=e
 first | replace z2:=o3.mp z2 | replace z2:=aY.mp z2
 obtain⟨hz,rfl⟩:=z2
 try replace hz:=zD hz
 replace e:=kQ.mp e;subst e;obtain⟨l,e1,rfl⟩:=r;obtain⟨en,k,I,gd,rf,nd,hc⟩:=S.inst e1 e2;have ck:=CO c hc;have hlen:=aY0 rf;have hln:(lookIn x (dictOf en k)).isSome=true:=by
  rw[lookIn_dict];cases q:jW x fs with
  | none=>rw[(mT rf).2 q];rfl
  | some v'=>obtain⟨u',hu,_⟩:=(mT rf).1 v' q;rw[hu];rfl
 have ht:takerIn K (B.ca c) x=some none:=by unfold takerIn;rw[ck.attr x ha];rfl
 refine set_plain (K0.keeps S.base) I ck.sa (bi6 (s:={ s with toks:=s.toks+1 }) (K0.keeps S.base) I rfl gd ck.over ht ck.hasDict hln (putName_dict ..) rfl (by have:=bs6 (x:=x) (PyData.keyHash w.params x) (.str x (s.toks+1)) u en;simp only at *;lia) λh' sb g=>?_);have gi:h'.get? l.a=some (instObj (B.ca c) l.d):=by
  rw[sb.2 l.a]
  ·exact I.at_
  ·intro q;have:=I.at_;rw[q,gd]at this;simp[dictOf,instObj]at this
 refine h _ _ _ (Stp.set S e1 e2 rfl (λb _ h2=>sb.2 b h2) ⟨⟨_,gi⟩,⟨_,g⟩⟩ λK'=>?_);exact⟨gi,_,_,g,aX9 (dX.kept K' _ _ rf) (cD.kept K' _ _ rv),aU8 nd,hc⟩
end
section
variable {X O:Addr→Prop}{w:World}{h h' hZ:Heap}{μ μ':List Loc}{F F':Addr→Prop}{A:Around}{sc:Scope}{env:Env}{ρ:LE}{E:Value→Shared→Prop}{s:Shared}{Y Y':H}{n m:Nat}{l:Loc}{x y z v:V}{u key:Value}
def ba7 (w:World)(A:Around)(E:Value→Shared→Prop)(o i:Value)(Q:Value→Shared→Prop)(s:Shared):Prop:=
 ∃(T id:String),typeLookup (.type T) "__getitem__"=pure (some (.builtin id))∧s.TypeIs o T∧wpAny (model prog w) A (getItem o i) Q E s
theorem bk7 {k:V}{p:V×H}(e:aJ k x Y=some p):(∃xs,x=.tup xs∧bL ((cA k).bind (fL xs)) Y=some p)∨(∃xs,x=.lst xs∧bL ((cA k).bind (fL xs)) Y=some p)∨
  (∃ks vs,x=.dct ks vs∧aB (dD (bM k ks&&!kT k)) (λ_=>bL (dM k (ks.zip vs))) Y=some p)∨∃n,x=.ref n∧aB (yY n) (λo=>aO5 k o) Y=some p:=by
 refine Fl.opq1 x λP hP=>?_;revert e;cases x
 case tup xs=>exact λe=>hP _ (.inl ⟨xs,rfl,e⟩)
 case lst xs=>exact λe=>hP _ (.inr (.inl ⟨xs,rfl,e⟩))
 case dct ks vs=>exact λe=>hP _ (.inr (.inr (.inl ⟨ks,vs,rfl,e⟩)))
 case ref n=>exact λe=>hP _ (.inr (.inr (.inr ⟨n,rfl,e⟩)))
 all_goals exact aV
theorem bv7 {Q:Value→Shared→Prop}(hu:A.units+22 < cLine)(S:Sta X w hZ s.heap μ Y)(r:cD w s.heap μ (Fz X μ Y) x u)(rk:cD w s.heap μ (Fz X μ Y) y key)(e:aJ y x Y=some (z,Y'))(h:cU X w hZ s μ Y Y' z Q) :
  ba7 w A E u key Q s:=by
 have seq:∀{xs:List V} {a vs k},(cA y).bind (fL xs)=some z→bC w s.heap μ (Fz X μ Y) xs vs→xs.length≤200000→Y=Y'→(s.heap.get? a=some (j9 vs k)∨s.heap.get? a=some (p9 vs k))→ba7 w A E (.ref a) key Q s:=by
  intro xs a vs k e rl hz es g;obtain⟨i,hi,e0⟩:=zO e;cases yH hi;subst es;obtain⟨t,rfl⟩:=rk;have it:wpAny (model prog w) A (getItem (.ref a) (.int i t)) Q E s:=aO4 S rl hz g e0 h;rcases g with g | g
  ·exact⟨"list",_,slot_list_getitem.lookup,⟨_,g,rfl⟩,it⟩
  ·exact⟨"tuple",_,slot_tuple_getitem.lookup,⟨_,g,rfl⟩,it⟩
 have ee:=bk7 e;clear e;rcases ee with⟨xs,rfl,e⟩ | ⟨xs,rfl,e⟩ | ⟨ks,vs,rfl,e⟩ | ⟨n,rfl,e⟩<;>simp only[bB,aG,aY,jJ,Bool.and_eq_true]at e
 ·obtain⟨e,es⟩:=e;obtain⟨a,vs,n,rfl,_,g,l,hz⟩:=r;exact seq e l hz es (.inr g)
 ·obtain⟨e,es⟩:=e;obtain⟨a,vs,n,rfl,_,g,l,hz⟩:=r;exact seq e l hz es (.inl g)
 ·obtain⟨_,_,⟨⟨ko,_⟩,rfl⟩,e,rfl⟩:=e;obtain⟨a,en,m,rfl,D,hl,hs⟩:=aY7 r;exact⟨"dict",_,slot_dict_getitem.lookup,dT D,wR hu D (by rw[aJ4 hl];exact ko) rk e λv t' r'=>h.ret S r' t'⟩
 ·obtain⟨o,_,⟨e2,rfl⟩,e⟩:=e;obtain⟨l,e1,rfl⟩:=r;obtain⟨es,q0⟩:=bk8 e;clear e;rcases q0 with⟨xs,rfl,e⟩ | ⟨fs,rfl,ko,e⟩
  ·obtain⟨vs,n,g,_,rl,hz⟩:=S.obj _ _ _ e1 e2;exact seq e rl hz es (.inl g)
  ·subst es;obtain⟨en,m,D,hd,hs⟩:=S.dict e1 e2;exact⟨"dict",_,slot_dict_getitem.lookup,dT D,wR hu D ko rk e λv t' r'=>h.ret S r' t'⟩
theorem ae5 {value slice:Expr}{pos:Pos}{Q:Value→Shared→Prop}(hsl:∀o i,subscripted slice false o i=operate [o,i] (getItem o i)∨subscripted slice false o i=operate [i,o] (getItem o i))
  (h:wpAny (model prog w) A (eval value env) (λo s₁=>wpAny (model prog w) A (eval slice env) (λi s₂=>ba7 w A E o i Q s₂) E s₁) E s) :
  wpAny (model prog w) A (eval (.Subscript value slice pos) env) Q E s:=by
 rw[eval_Subscript];refine zW (wpAny_mono h (λo s₁ h₁=>zW (wpAny_holding (wpAny_mono h₁ (λi s₂ h₂=>zW (wpAny_standAt ?_)) λ_ _ x=>x))) λ_ _ x=>x);obtain⟨T,id,hl,hT,hg⟩:=h₂;refine zW ?_;rw[getitemInPython_of_ne hT.not_modules];refine zW (wpAny_specialOf hT hl (zP ?_));have fin:∀vs,wpAny (model prog w) A (operate vs (getItem o i) >>= λr=>letTemporaryGo value o r >>= λ_=>pure r) Q E s₂:=λvs=>
  zW (wpAny_operating (wpAny_mono hg (λr s₃ h₃=>zW (wpAny_letTemporaryGo (zP h₃))) λ_ _ x=>x))
 show wpAny _ _ (subscripted slice false o i >>= _) _ _ _;rcases hsl o i with q | q<;>rw[q]
 ·exact fin _
 ·exact fin _
theorem gK {o slice:Expr}{pos:Pos}{m k:M V}(hu:A.units+22 < cLine)(ho:Pc w hZ X O A sc env ρ m (eval o env))(hi:Pc w hZ X O A sc env ρ k (eval slice env))
  (hsl:∀o i,subscripted slice false o i=operate [o,i] (getItem o i)):Pc w hZ X O A sc env ρ (aB m λov=>aB k λi=>aJ i ov) (eval (.Subscript o slice pos) env):=by
 intro E s μ Y Y' x Q S f e h;replace e:=aG.mp e;obtain⟨a,Y₁,e1,e⟩:=e;replace e:=aG.mp e;obtain⟨b,Y₂,e2,e3⟩:=e;refine ae5 (λo i=>.inl (hsl o i)) (ho _ _ _ _ _ _ _ S f e1 λva h1 t1 μ1 st1 ra=>hi _ _ _ _ _ _ _ st1.st (f.step S st1) e2 λvb h2 t2 μ2 st2 rb=>?_);exact bv7 hu st2.st (st2.rep ra) rb e3 ((h.after st1).after st2)
theorem bw9 {o lo:Expr}{p pos:Pos}{m k:M V}(ho:Pc w hZ X O A sc env ρ m (eval o env))(hi:Pc w hZ X O A sc env ρ k (eval lo env)) :
  Pc w hZ X O A sc env ρ (aB m λov=>aB k λl=>aB (bL (cA l)) λl=>fY l ov) (eval (.Subscript o (.Slice (some lo) none none p) pos) env):=by
 intro E s μ Y Y' x Q S f e h;replace e:=aG.mp e;obtain⟨a,Y₁,e1,e⟩:=e;replace e:=aG.mp e;obtain⟨b,Y₂,e2,e⟩:=e;replace e:=aG.mp e;obtain⟨i,_,z2,e3⟩:=e;replace z2:=bB.mp z2;obtain⟨hb,rfl⟩:=z2;refine ae5 (λ_ _=>.inr rfl) (ho _ _ _ _ _ _ _ S f e1 λva h1 t1 μ1 st1 ra=>wpAny_Slice (hi _ _ _ _ _ _ _ st1.st (f.step S st1) e2 λvb h2 t2 μ2 st2 rb=>zP ?_));cases yH hb;obtain⟨t,rfl⟩:=rb;have ra':=st2.rep ra;have q0:=jE e3;clear e3;obtain⟨n,rfl,e3⟩:=q0;replace e3:=aG.mp e3;obtain⟨xs,_,z0,e3⟩:=e3
 first | replace z0:=gW.mp z0 | replace z0:=aY.mp z0
 obtain⟨e4,rfl⟩:=z0
 try replace e4:=zD e4
 replace e3:=aG.mp e3;obtain⟨_,_,z1,e3⟩:=e3
 first | replace z1:=gW.mp z1 | replace z1:=aY.mp z1
 obtain⟨hp,rfl⟩:=z1
 try replace hp:=zD hp
 replace e3:=aM.mp e3;obtain⟨rfl,rfl⟩:=e3;obtain⟨l,el,rfl⟩:=ra';obtain⟨vs,n,g,_,rl,hz⟩:=st2.st.obj _ _ _ el e4;have hl:=bO rl;have st3:=Stp.push st2.st { cls:=.type "slice",data:=.fields #[.int i t,.none,.none] };have g':=st3.keep _ _ g;obtain⟨a,rfl⟩:∃a:Nat,i=a:=⟨i.toNat,by lia⟩;rw[evalPart_none];refine zP ⟨"list",_,slot_list_getitem.lookup,⟨_,Heap.get?_push_of_some _ g,rfl⟩,?_⟩;refine wpAny_getItem_list_slice (kD (Heap.get?_push_of_some _ g)) (Heap.IsSliceOf.new ..) (.int _ _) .none .none (by simp) ?_ (by rw[List.size_toArray,aZ];lia);have e:(slicePick vs.toArray (some (a:Int)) none none)=(vs.drop a).toArray:=by rw[slicePick_from']
 rw[e];have rl':=st3.repL rl;obtain⟨st4,r4⟩:=Stp.lst (s:={ s with heap:=h2.push { cls:=.type "slice",data:=.fields #[.int a t,.none,.none] },toks:=t2 }) st3.st (az0 a rl') (by simp;lia);have:=h _ _ t2 _ (((st1.trans st2).trans st3).trans st4) r4;rw[Heap.size_push]at this ⊢;exact this
theorem bO9 {o lo:Expr}{p pos:Pos}{m k:M V}(ho:Pc w hZ X O A sc env ρ m (eval o env))(hi:Pc w hZ X O A sc env ρ k (eval lo env)) :
  Pc w hZ X O A sc env ρ (aB m λov=>aB k λl=>aB (bL (cA l)) λl=>iA l ov) (eval (.Subscript o (.Slice none (some lo) none p) pos) env):=by
 intro E s μ Y Y' x Q S f e h;replace e:=aG.mp e;obtain⟨a,Y₁,e1,e⟩:=e;replace e:=aG.mp e;obtain⟨b,Y₂,e2,e⟩:=e;replace e:=aG.mp e;obtain⟨i,_,z2,e3⟩:=e;replace z2:=bB.mp z2;obtain⟨hb,rfl⟩:=z2;refine ae5 (λ_ _=>.inr rfl) (ho _ _ _ _ _ _ _ S f e1 λva h1 t1 μ1 st1 ra=>wpAny_Slice ?_);rw[evalPart_none];refine zP (hi _ _ _ _ _ _ _ st1.st (f.step S st1) e2 λvb h2 t2 μ2 st2 rb=>?_);cases yH hb;obtain⟨t,rfl⟩:=rb;have ra':=st2.rep ra;obtain⟨es,q3⟩:=aK8 e3;clear e3;subst es;rcases q3 with⟨xs,rfl,rfl,hne,rfl⟩ | ⟨xs,rfl,hp,rfl⟩
 ·obtain⟨a,vs,n,rfl,_,g,rl,hz⟩:=ra';have hl:=bO rl;have st3:=Stp.push st2.st { cls:=.type "slice",data:=.fields #[.none,.int (-1) t,.none] };refine zP ⟨"tuple",_,slot_tuple_getitem.lookup,⟨_,Heap.get?_push_of_some _ g,rfl⟩,?_⟩;refine qB (Heap.get?_push_of_some _ g) (Heap.IsSliceOf.new ..) (by rintro rfl;simp at hl;subst hl;simp at hne) (by lia) ?_;have rl':=st3.repL rl;obtain⟨st4,r4⟩:=Stp.tup (s:={ s with heap:=h2.push { cls:=.type "slice",data:=.fields #[.none,.int (-1) t,.none] },toks:=t2 }) st3.st (tG rl') (by simp;lia);have:=h _ _ t2 _ (((st1.trans st2).trans st3).trans st4) r4;rw[Heap.size_push]at this ⊢;exact this
 ·obtain⟨a,vs,n,rfl,_,g,rl,hz⟩:=ra';have hl:=bO rl;have st3:=Stp.push st2.st { cls:=.type "slice",data:=.fields #[.none,.int i t,.none] };obtain⟨b,rfl⟩:∃b:Nat,i=b:=⟨i.toNat,by lia⟩;refine zP ⟨"list",_,slot_list_getitem.lookup,⟨_,Heap.get?_push_of_some _ g,rfl⟩,?_⟩;refine wpAny_getItem_list_slice (kD (Heap.get?_push_of_some _ g)) (Heap.IsSliceOf.new ..) .none (.int _ _) .none (by simp) ?_ (by rw[List.size_toArray,aZ];lia);have e:(slicePick vs.toArray none (some (b:Int)) none)=(vs.take b).toArray:=by rw[slicePick_upto']
  rw[e];have rl':=st3.repL rl;obtain⟨st4,r4⟩:=Stp.lst (s:={ s with heap:=h2.push { cls:=.type "slice",data:=.fields #[.none,.int b t,.none] },toks:=t2 }) st3.st (xL b rl') (by simp;lia);have:=h _ _ t2 _ (((st1.trans st2).trans st3).trans st4) r4;rw[Heap.size_push]at this ⊢;exact this
end
section
variable {X X' O:Addr→Prop}{w:World}{h h' hZ:Heap}{μ μ':List Loc}{F F':Addr→Prop}{A:Around}{sc:Scope}{env:Env}{ρ:LE}{E:Value→Shared→Prop}{s:Shared}{Y Y':H}{n m:Nat}{l:Loc}{x y z v:V}{u key:Value}
theorem FrameAt.carry (f:FrameAt X O w sc env h μ F ρ)(hX:∀b,X b→X' b)(hk:∀b,X b→∀o,h.get? b=some o→h'.get? b=some o)(K:Kept h μ F h' μ' F'):FrameAt X' O w sc env h' μ' F' ρ:=by
 have kc:∀a v,X a→h.IsCell a v→h'.IsCell a v:=λa v xa ⟨o,e,d⟩=>⟨o,hk a xa o e,d⟩;refine⟨f.ok,f.kind,f.loc,f.cel,f.fre,f.glo,f.globals,f.builtins,λb q=>hX b (f.own b q),f.ownL,λy hy=>?_,λx c e=>hX c (f.inX x c e),f.apart,f.apartL,?_,λy v hy e=>?_⟩
 ·obtain⟨c,v,e1,e2,e3⟩:=f.ownC y hy;exact⟨c,v,e1,e2,kc _ _ (f.own _ e2) e3⟩
 ·obtain⟨m,hn,hm⟩:=f.ns;obtain⟨o,es,ep,ho,hd⟩:=hn;refine⟨m,⟨o,es,ep,hk _ (f.own _ f.ownL) _ ho,hd⟩,λy v hy e=>?_⟩;obtain⟨u,hu,r⟩:=hm y v hy e;exact⟨u,hu,cD.kept K _ _ r⟩
 ·obtain⟨c,u,e1,e2,r⟩:=f.cells y v hy e;exact⟨c,u,e1,kc _ _ (f.inX _ _ e1) e2,cD.kept K _ _ r⟩
theorem ao3 (S:Sta X w hZ h μ Y)(r:cD w h μ (Fz X μ Y) x u)(e:aA x Y=some (y,Y')):Stp X w hZ h μ Y h μ Y'∧cD w h μ (Fz X μ Y') y u:=by
 have same:∀{x y:V},cD w h μ (Fz X μ Y) x u→ret x Y=some (y,Y')→Stp X w hZ h μ Y h μ Y'∧cD w h μ (Fz X μ Y') y u:=by
  intro x y r e;obtain⟨rfl,rfl⟩:=aM.mp e;exact⟨Stp.same S,r⟩
 cases x
 case ref n=>
  have e0:=aG.mp (show aB (yY n) (λo=>wV n o) Y=some (y,Y')from e);clear e;obtain⟨o,s1,g1,e⟩:=e0;obtain⟨e2,q⟩:=jJ.mp g1;clear g1;subst q;cases o
  case list xs=>
   obtain⟨_,_,e3,e4⟩:=aG.mp (show aB (xJ n .gone) (λ_=>ret (V.lst xs)) Y=_ from e);clear e;obtain rfl:=kQ.mp e3;obtain⟨rfl,rfl⟩:=aM.mp e4;obtain⟨l,e1,rfl⟩:=r;obtain⟨vs,k,g,hd,rl,hz⟩:=S.obj _ _ _ e1 e2;have st:Stp X w hZ h μ Y h μ (Y.set n .gone):=Stp.set S e1 e2 rfl (λ_ _ _=>rfl) ⟨(S.off _ _ e1).2.2.1,(S.off _ _ e1).2.2.2⟩ λ_=>trivial;refine⟨st,?_⟩;show ∃_,_;refine⟨l.a,vs,k,rfl,⟨?_,(S.offX _ _ e1).1⟩,g,bC.kept st.kept _ _ rl,hz⟩;rintro⟨m,l',o',g1,g2,g3,g4⟩;by_cases q:n=m
   ·subst q;rw[List.getElem?_set]at g2;split at g2
    ·split at g2
     ·cases g2;cases g3
     ·cases g2
    ·rename_i z;exact z rfl
   ·have ap:=S.apart n m l l' q e1 g1
    rcases g4 with g4 | g4
    ·exact ap.1 g4
    ·exact ap.2.1 g4
  case gone=>exact aV e
  case dict=>exact same r e
  case inst=>exact same r e
 all_goals exact same r e
theorem xA {fz:Bool}{ms:List (M V)}{ts:List (Sem Value)}(hp:Pcs w hZ X O A sc env ρ ms ts):∀{E:Value→Shared→Prop} {s:Shared} {μ:List Loc} {Y Y':H} {xs:List V} {Q:List Value→Shared→Prop},
  Sta X w hZ s.heap μ Y→FrameAt X O w sc env s.heap μ (Fz X μ Y) ρ→j0 fz ms Y=some (xs,Y')→
  (∀us h' t' μ',Stp X w hZ s.heap μ Y h' μ' Y'→bC w h' μ' (Fz X μ' Y') xs us→Q us { s with heap:=h',toks:=t' })→
  wpAny (model prog w) A (spliced (ts.map λt=>(false,t))) Q E s:=by
 induction hp with
 | nil=>
  intro E s μ Y Y' xs Q S f e h;obtain⟨rfl,rfl⟩:=aM.mp e;exact Calls.spliced_nil (h _ _ s.toks _ (Stp.same S) (rfl))
 | @cons m t ms ts hp r ih=>
  intro E s μ Y Y' xs Q S f e h;obtain⟨a,Y₁,e1,e⟩:=aG.mp (show(aB m λv=>aB (if fz then aA v else ret v) λv=>aB (j0 fz ms) λvs=>ret (v::vs)) Y=some (xs,Y')from e);obtain⟨b,Y₂,e2,e⟩:=aG.mp e;obtain⟨vs,Y₃,e3,e⟩:=aG.mp e;obtain⟨rfl,rfl⟩:=aM.mp e;refine Calls.spliced_cons (hp _ _ _ _ _ _ _ S f e1 λva h1 t1 μ1 st1 ra=>?_);obtain⟨st2,rb⟩:Stp X w hZ h1 μ1 Y₁ h1 μ1 Y₂∧cD w h1 μ1 (Fz X μ1 Y₂) b va:=by
   clear ih h e1 e3;cases fz
   ·obtain⟨rfl,rfl⟩:=aM.mp e2;exact⟨Stp.same st1.st,ra⟩
   ·exact ao3 st1.st ra e2
  refine ih (s:={ s with heap:=h1,toks:=t1 }) st2.st (f.step S (st1.trans st2)) e3 λus h2 t2 μ2 st3 rl=>?_;exact h _ _ _ _ ((st1.trans st2).trans st3) (by exact bC.cons (st3.rep rb) (rl))
theorem aq8 {fz:Bool}:∀{ms:List (M V)} {Y Y':H} {xs:List V},j0 fz ms Y=some (xs,Y')→xs.length=ms.length:=by
 intro ll
 induction ll with
 | nil=>
  intro Y Y' xs e;obtain⟨rfl,rfl⟩:=aM.mp e;rfl
 | cons m ms ih=>
  intro Y Y' xs e;have e':(aB m λv=>aB (if fz then aA v else ret v) λv=>aB (j0 fz ms) λvs=>ret (v::vs)) Y=some (xs,Y'):=e;replace e':=aG.mp e';obtain⟨a,Y₁,e1,e'⟩:=e';replace e':=aG.mp e';obtain⟨b,Y₂,e2,e'⟩:=e';replace e':=aG.mp e';obtain⟨vs,Y₃,e3,e'⟩:=e';replace e':=aM.mp e';obtain⟨rfl,rfl⟩:=e';simp[ih e3]
theorem bg7 {es:List Expr}{k}{pos:Pos}{ms:List (M V)}{ts:List (Sem Value)}(hp:Pcs w hZ X O A sc env ρ ms ts)(hs:backTo pos (starEach es env)=ts.map λt=>(false,t))(hz:ms.length≤1000) :
  Pc w hZ X O A sc env ρ (aB (j0 true ms) λvs=>ret (.tup vs)) (eval (.Tuple es k pos) env):=by
 intro E s μ Y Y' x Q S f e h;replace e:=aG.mp e;obtain⟨vs,Y₁,e1,e⟩:=e;replace e:=aM.mp e;obtain⟨rfl,rfl⟩:=e;have hl:=aq8 e1;refine wpAny_Tuple_spliced ?_;rw[hs];refine xA hp S f e1 λus h1 t1 μ1 st1 rl=>⟨by have:=bO rl;rw[aZ];lia,?_⟩;obtain⟨st2,r2⟩:=Stp.tup (s:={ s with heap:=h1,toks:=t1 }) st1.st rl (by lia);exact h _ _ _ _ (st1.trans st2) r2
theorem bu4 {es:List Expr}{pos:Pos}{ms:List (M V)}{ts:List (Sem Value)}(hp:Pcs w hZ X O A sc env ρ ms ts)(hs:backTo pos (starEach es env)=ts.map λt=>(false,t))(hz:ms.length≤1000) :
  Pc w hZ X O A sc env ρ (aB (j0 true ms) λvs=>ret (.lst vs)) (eval (.List es pos) env):=by
 intro E s μ Y Y' x Q S f e h;replace e:=aG.mp e;obtain⟨vs,Y₁,e1,e⟩:=e;replace e:=aM.mp e;obtain⟨rfl,rfl⟩:=e;have hl:=aq8 e1;refine wpAny_List_spliced ?_;rw[hs];refine xA hp S f e1 λus h1 t1 μ1 st1 rl=>⟨by have:=bO rl;rw[aZ];lia,?_⟩;obtain⟨st2,r2⟩:=Stp.lst (s:={ s with heap:=h1,toks:=t1 }) st1.st rl (by lia);exact h _ _ _ _ (st1.trans st2) r2
theorem aN6 {es:List Expr}{pos:Pos}{ms:List (M V)}{ts:List (Sem Value)}(hp:Pcs w hZ X O A sc env ρ ms ts)(hs:backTo pos (starEach es env)=ts.map λt=>(false,t))(hz:ms.length≤1000) :
  Pc w hZ X O A sc env ρ (aB (j0 false ms) λvs=>bN (.list vs)) (eval (.List es pos) env):=by
 intro E s μ Y Y' x Q S f e h;simp only[aG,pQ]at e;obtain⟨vs,Y₁,e1,rfl,rfl⟩:=e;have hl:=aq8 e1;refine wpAny_List_spliced ?_;rw[hs];refine xA hp S f e1 λus h1 t1 μ1 st1 rl=>⟨by have:=bO rl;rw[aZ];lia,?_⟩;have sz:(h1.push (j9 us 0)).objs.size=h1.objs.size+1:=Heap.size_push ..;have st2:Stp X w hZ h1 μ1 Y₁ (h1.push (j9 us 0)) (μ1++[⟨h1.objs.size,h1.objs.size⟩]) (Y₁++[.list vs]):=by
  refine Stp.alloc st1.st (λb o e=>Heap.get?_push_of_some _ e) ⟨zN,_,Heap.get?_push_size _ rfl⟩ ⟨zN,_,Heap.get?_push_size _ rfl⟩ λK=>?_;exact⟨us,0,Heap.get?_push_size _ rfl,rfl,bC.kept K _ _ rl,by lia⟩
 refine h _ _ t1 _ (st1.trans st2) ?_;show ∃_,_;refine⟨⟨h1.objs.size,h1.objs.size⟩,?_,rfl⟩;rw[←st1.st.len,zJ];rfl
theorem zZ {pos:Pos}:Pc w hZ X O A sc env ρ (bN (.dict [])) (eval (.Dict [] [] pos) env):=by
 intro E s μ Y Y' x Q S f e h;obtain⟨rfl,rfl⟩:=pQ.mp e;refine wpAny_Dict_empty ?_;have sz:(s.heap.push (dictOf [] 0)).objs.size=s.heap.objs.size+1:=Heap.size_push ..;have st2:Stp X w hZ s.heap μ Y (s.heap.push (dictOf [] 0)) (μ++[⟨s.heap.objs.size,s.heap.objs.size⟩]) (Y++[.dict []]):=by
  refine Stp.alloc S (λb o e=>Heap.get?_push_of_some _ e) ⟨zN,_,Heap.get?_push_size _ rfl⟩ ⟨zN,_,Heap.get?_push_size _ rfl⟩ λK=>?_;exact⟨[],0,Heap.get?_push_size _ rfl,rfl,rfl,rfl,rfl,by simp,by simp⟩
 refine h _ _ s.toks _ st2 ?_;show ∃_,_;refine⟨⟨s.heap.objs.size,s.heap.objs.size⟩,?_,rfl⟩;rw[←S.len,zJ];rfl
end
section
variable {X X' O:Addr→Prop}{w:World}{h h' hZ:Heap}{μ μ':List Loc}{F F':Addr→Prop}{A:Around}{sc:Scope}{env:Env}{ρ:LE}{E:Value→Shared→Prop}{s:Shared}{Y Y':H}{n m:Nat}{l:Loc}{k x y z v:V}{u key:Value}{d:Addr}{en:List DictEntry}{es kv:List (V×V)}
theorem aQ8 {Q:Unit→Shared→Prop}(hu:A.units+20 < cLine)(D:DRep w s.heap μ F d en n es)(hz:es.length < 100000)(ko:bM k (es.map (·.1))=true)(rk:cD w s.heap μ F k key)(r:cD w s.heap μ F x u)
  (h:∀h' en' n' t',Heap.SameBut d s.heap h'→h'.get? d=some (dictOf en' n')→DData w s.heap μ F en' (put k x es)→Q () { s with heap:=h',toks:=t' }) :
  wpAny (model prog w) A (dictSet d key u) Q E s:=by
 unfold dictSet;refine wpAny_holding ?_;refine zW (sG hu ko rk λt'=>?_);unfold dictSetHashed;refine wpAny_holding ?_;refine zW (wX (s:={ s with toks:=t' }) hu D ko rk ?_);cases hi:fV k es with
 | some i=>
  refine zW (wpAny_rule (zW (wpAny_updateDict (s:={ s with toks:=t' }) D.at_ rfl (wpAny_point ?_))));refine h _ (en.modify i λe=>{ e with val:=u }) n t' (Heap.SameBut.update ..) ?_ (D.data.modify hi r);have:=Heap.get?_update_self (Obj.mapDict λx=>x.modify i λe=>{ e with val:=u }) D.at_ rfl;exact this.trans (congrArg some aQ7)
 | none=>
  refine zW (wpAny_rule (wpAny_updateDictKeys (hz:=by show en.toArray.size≤_;rw[List.size_toArray,D.len,aZ];lia) (s:={ s with toks:=t' }) D.at_ rfl ?_));refine h _ (en++[⟨iT w k,key,u⟩]) (n+1) t' (Heap.SameBut.update ..) ?_ (D.data.push hi rk r);have:=Heap.get?_update_self (Obj.mapDictKeys λx=>x.push ⟨iT w k,key,u⟩) D.at_ rfl;exact this.trans (congrArg some aC4)
theorem bw6 (hk:k∉es.map (·.1)):fV k es=none:=by
 unfold fV;rw[List.findIdx?_eq_none_iff];intro p hp;rw[decide_eq_false_iff_not];exact λe=>hk (List.mem_map.mpr ⟨p,hp,e⟩)
theorem aE2 (hu:A.units+20 < cLine)(hx:X d):∀(kv:List (V×V)) (us:List (Value×Value)) {es:List (V×V)} {en:List DictEntry} {n:Nat} {E:Value→Shared→Prop} {s:Shared} {Q:Unit→Shared→Prop},
  Sta X w hZ s.heap μ Y→s.heap.get? d=some (dictOf en n)→DData w s.heap μ (Fz X μ Y) en es→es.length+kv.length≤1000→((es++kv).map (·.1)).Nodup→((es++kv).all λe=>kS e.1)=true→
  bC w s.heap μ (Fz X μ Y) (kv.map (·.1)) (us.map (·.1))→bC w s.heap μ (Fz X μ Y) (kv.map (·.2)) (us.map (·.2))→
  (∀h' en' n' t',Heap.SameBut d s.heap h'→Sta X w hZ h' μ Y→h'.get? d=some (dictOf en' n')→DData w h' μ (Fz X μ Y) en' (es++kv)→Q () { s with heap:=h',toks:=t' })→
  wpAny (model prog w) A (storeAll d us) Q E s:=by
 intro kv
 induction kv with
 | nil=>
  intro us es en n E s Q S g D hz nd ks r1 r2 h;have r1:=List.map_eq_nil_iff.mp r1;subst r1;exact zP (h _ _ _ s.toks ⟨rfl,λ_ _=>rfl⟩ S g (by rw[List.append_nil];exact D))
 | cons p kv ih=>
  intro us es en n E s Q S g D hz nd ks r1 r2 h;cases us with
  | nil=>obtain⟨_,_,e,_⟩:=r1;cases e
  | cons q us=>
  obtain⟨_,_,e,a1,b1⟩:=r1;obtain⟨rfl,rfl⟩:=List.cons.inj e;obtain⟨_,_,e,a2,b2⟩:=r2;obtain⟨rfl,rfl⟩:=List.cons.inj e;have nk:p.1∉es.map (·.1):=by
   rw[List.map_append,List.nodup_append]at nd;exact λhm=>nd.2.2 _ hm _ (by simp) rfl
  have all1:(es.map (·.1)).all kS=true:=by
   rw[List.all_map];rw[List.all_append,Bool.and_eq_true]at ks;exact ks.1
  have kp:kS p.1=true:=by
   rw[List.all_append,Bool.and_eq_true,List.all_cons,Bool.and_eq_true]at ks;exact ks.2.1
  have ko:bM p.1 (es.map (·.1))=true:=by unfold bM;rw[kp,all1];simp
  have pn:put p.1 p.2 es=es++[p]:=aF1 (bw6 nk);show wpAny _ _ (forIn (q::us) PUnit.unit _) _ _ _;rw[List.forIn_cons];simp only[List.length_cons]at hz;refine zW (zW (aQ8 hu ⟨g,D.keys,D.hash,D.vals,D.nodup,by lia⟩ (by lia) ko a1 a2 λh1 en1 n1 t1 sb g1 D1=>zP ?_));rw[pn]at D1;have S1:=S.own hx sb ⟨_,g1⟩;have K:Kept s.heap μ (Fz X μ Y) h1 μ (Fz X μ Y):=⟨List.prefix_refl _,λb o e f=>⟨(sb.2 b λq=>f.2 (q▸hx)).trans e,f⟩⟩;refine ih us (s:={ s with heap:=h1,toks:=t1 }) S1 g1 (D1.kept K) (by simp;lia) (by simpa using nd) (by simpa using ks) (bC.kept K _ _ b1) (bC.kept K _ _ b2) λh2 en2 n2 t2 sb2 S2 g2 D2=>?_;exact h _ _ _ _ ⟨sb2.1.trans sb.1,λb q=>(sb2.2 b q).trans (sb.2 b q)⟩ S2 g2 (by simpa using D2)
theorem o5 {call:CT}{ks:List (Option Expr)}{vs:List Expr}{Y Y':H}{kv:List (V×V)}(e:fU (rQ call ks sc ρ) (kG call vs sc ρ) Y=some (kv,Y')) :
  (ks=[]∧vs=[]∧kv=[]∧Y=Y')∨∃k ks' v vs' a Y₁ b Y₂ r,ks=some k::ks'∧vs=v::vs'∧ev call k sc ρ Y=some (a,Y₁)∧ev call v sc ρ Y₁=some (b,Y₂)∧fU (rQ call ks' sc ρ) (kG call vs' sc ρ) Y₂=some (r,Y')∧kv=(a,b)::r:=by
 refine Fl.opq2 ks vs λP hP=>?_;revert e;cases ks with
 | nil=>cases vs with
  | nil=>exact λe=>hP _ _ (.inl ⟨rfl,rfl,aM.mp e⟩)
  | cons _ _=>exact aV
 | cons k ks=>
  cases vs with
  | nil=>cases k<;>exact aV
  | cons v vs=>
  cases k with
  | none=>exact aV
  | some k=>
  intro e;obtain⟨a,Y₁,e1,e⟩:=aG.mp (show(aB (ev call k sc ρ) λa=>aB (ev call v sc ρ) λb=>aB (fU (rQ call ks sc ρ) (kG call vs sc ρ)) λr=>ret ((a,b)::r)) Y=some (kv,Y')from e);obtain⟨b,Y₂,e2,e⟩:=aG.mp e;obtain⟨r,Y₃,e3,e⟩:=aG.mp e;have q:=aM.mp e;exact hP _ _ (.inr ⟨k,ks,v,vs,a,Y₁,b,Y₂,r,rfl,rfl,e1,e2,q.2▸e3,q.1⟩)
theorem bi3 {call:CT}{pos:Pos}:∀(ks:List (Option Expr)) (vs:List Expr),(∀e,some e∈ks→Pc w hZ X O A sc env ρ (ev call e sc ρ) (eval e env))→(∀e∈vs,Pc w hZ X O A sc env ρ (ev call e sc ρ) (eval e env))→
  ∀{E:Value→Shared→Prop} {s:Shared} {μ:List Loc} {Y Y':H} {kv:List (V×V)} {Q:List (Value×Value)→Shared→Prop},Sta X w hZ s.heap μ Y→FrameAt X O w sc env s.heap μ (Fz X μ Y) ρ→fU (rQ call ks sc ρ) (kG call vs sc ρ) Y=some (kv,Y')→
  (∀us h' t' μ',Stp X w hZ s.heap μ Y h' μ' Y'→bC w h' μ' (Fz X μ' Y') (kv.map (·.1)) (us.map (·.1))→bC w h' μ' (Fz X μ' Y') (kv.map (·.2)) (us.map (·.2))→Q us { s with heap:=h',toks:=t' })→
  wpAny (model prog w) A (evalPairs (pairTrees ks vs env pos)) Q E s:=by
 intro ks
 induction ks with
 | nil=>
  intro vs _ _ E s μ Y Y' kv Q S f e h;rcases o5 e with⟨_,rfl,rfl,rfl⟩ | ⟨_,_,_,_,_,_,_,_,_,q,_⟩
  ·exact pairTrees_nil_walk (h [] _ s.toks _ (Stp.same S) rfl rfl)
  ·cases q
 | cons k0 ks ih=>
  intro vs hk hv E s μ Y Y' kv Q S f e h;have e0:=o5 e;clear e;rcases e0 with⟨q,_⟩ | ⟨k,_,v,vs,a,Y₁,b,Y₂,r,q,rfl,e1,e2,e3,rfl⟩
  ·cases q
  cases q;refine pairTrees_cons_walk (hk k (by simp) _ _ _ _ _ _ _ S f e1 λva h1 t1 μ1 st1 ra=>hv v (by simp) _ _ _ _ _ _ _ st1.st (f.step S st1) e2 λvb h2 t2 μ2 st2 rb=>?_);refine ih vs (λe he=>hk e (zC _ he)) (λe he=>hv e (zC _ he)) (s:={ s with heap:=h2,toks:=t2 }) st2.st (f.step S (st1.trans st2)) e3 λus h3 t3 μ3 st3 r1 r2=>?_;exact h _ _ _ _ ((st1.trans st2).trans st3) (by exact bC.cons (st3.rep (st2.rep ra)) (r1)) (by exact bC.cons (st3.rep rb) (r2))
theorem aF2 {call:CT}:∀(ks:List (Option Expr)) (vs:List Expr) {Y Y':H} {kv:List (V×V)},fU (rQ call ks sc ρ) (kG call vs sc ρ) Y=some (kv,Y')→ks.all (·.isSome)=true∧ks.length=vs.length∧kv.length=ks.length:=by
 intro ks
 induction ks with
 | nil=>
  intro vs Y Y' kv e;rcases o5 e with⟨_,rfl,rfl,rfl⟩ | ⟨_,_,_,_,_,_,_,_,_,q,_⟩
  ·exact⟨rfl,rfl,rfl⟩
  ·cases q
 | cons k0 ks ih=>
  intro vs Y Y' kv e;rcases o5 e with⟨q,_⟩ | ⟨k,_,v,vs,a,Y₁,b,Y₂,r,q,rfl,e1,e2,e3,rfl⟩
  ·cases q
  cases q;obtain⟨h1,h2,h3⟩:=ih vs e3;exact⟨h1,congrArg Nat.succ h2,congrArg Nat.succ h3⟩
theorem aC3 {call:CT}{ks:List (Option Expr)}{vs:List Expr}{pos:Pos}{Q:Value→Shared→Prop}(hu:A.units+20 < cLine)(h0:ks≠[])
  (hk:∀X' O' e,some e∈ks→Pc w hZ X' O' A sc env ρ (ev call e sc ρ) (eval e env)) (hv:∀X' O',∀e∈vs,Pc w hZ X' O' A sc env ρ (ev call e sc ρ) (eval e env))
  (S:Sta X w hZ s.heap μ Y) (f:FrameAt X O w sc env s.heap μ (Fz X μ Y) ρ) (e:fU (rQ call ks sc ρ) (kG call vs sc ρ) Y=some (kv,Y'))
  (nd:(kv.map (·.1)).Nodup) (kk:(kv.all λe=>kS e.1)=true) (hz:kv.length≤15)
  (h:∀h' en n t' μ',Stf (λb=>X b∨b=s.heap.objs.size) (λb=>b=s.heap.objs.size) w hZ (s.heap.push (dictOf [] 0)) μ Y h' μ' Y'→h'.get? s.heap.objs.size=some (dictOf en n)→
   DData w h' μ' (Fz (λb=>X b∨b=s.heap.objs.size) μ' Y') en kv→Q (.ref s.heap.objs.size) { s with heap:=h',toks:=t' }) :
  wpAny (model prog w) A (eval (.Dict ks vs pos) env) Q E s:=by
 obtain⟨q1,q2,q3⟩:=aF2 ks vs e;refine wpAny_Dict_any q1 q2 h0 (by lia) ?_;have kp:∀b o,s.heap.get? b=some o→(s.heap.push (dictOf [] 0)).get? b=some o:=λb o e=>Heap.get?_push_of_some _ e;have sz:(s.heap.push (dictOf [] 0)).objs.size=s.heap.objs.size+1:=Heap.size_push ..;have hX':∀b,(X b∨b=s.heap.objs.size)→X b∨(s.heap.get? b=none∧∃o,(s.heap.push (dictOf [] 0)).get? b=some o):=by
  rintro b (q | rfl)
  ·exact .inl q
  ·exact .inr ⟨zN,_,Heap.get?_push_size _ rfl⟩
 have S1:Sta (λb=>X b∨b=s.heap.objs.size) w hZ (s.heap.push (dictOf [] 0)) μ Y:=S.frame kp (λb q=>.inl q) hX';have f1:FrameAt (λb=>X b∨b=s.heap.objs.size) O w sc env (s.heap.push (dictOf [] 0)) μ (Fz (λb=>X b∨b=s.heap.objs.size) μ Y) ρ:=f.carry (λb q=>.inl q) (λb _ o e=>kp b o e) (Kept.frame S kp hX');refine bi3 (s:={ s with heap:=s.heap.push (dictOf [] 0) }) ks vs (hk _ _) (hv _ _) S1 f1 e λus h2 t2 μ2 st2 r1 r2=>?_;have g2:h2.get? s.heap.objs.size=some (dictOf [] 0):=st2.keep _ _ (Heap.get?_push_size _ rfl) (S1.notWr (.inr rfl));refine aE2 hu (X:=λb=>X b∨b=s.heap.objs.size) (.inr rfl) kv us (es:=[]) (en:=[]) (s:={ s with heap:=h2,toks:=t2 }) st2.st g2 ⟨rfl,rfl,rfl,by simp⟩ (by simp;lia) (by simpa using nd) (by simpa using kk) r1 r2 λh3 en n t3 sb S3 g3 D3=>?_;refine h _ _ _ _ _ ?_ g3 (by simpa using D3);refine Stf.trans (λb q=>.inr q) S1 st2.toF ?_;exact Stf.own st2.st rfl (λb q=>.inr q) sb ⟨_,g3⟩
theorem ap1 {call:CT}{ks:List (Option Expr)}{vs:List Expr}{pos:Pos}(hu:A.units+20 < cLine)(h0:ks≠[])
  (hk:∀X' O' e,some e∈ks→Pc w hZ X' O' A sc env ρ (ev call e sc ρ) (eval e env)) (hv:∀X' O',∀e∈vs,Pc w hZ X' O' A sc env ρ (ev call e sc ρ) (eval e env)) :
  Pc w hZ X O A sc env ρ (aB (fU (rQ call ks sc ρ) (kG call vs sc ρ)) λkv=>if(kv.map (·.1)).Nodup∧kv.all (λe=>kS e.1)=true∧kv.length≤15 then ret (.dct (kv.map (·.1)) (kv.map (·.2)))else fail) (eval (.Dict ks vs pos) env):=by
 intro E s μ Y Y' x Q S f e h;replace e:=aG.mp e;obtain⟨kv,Y₁,e1,e2⟩:=e;split at e2
 ·rename_i c;obtain⟨rfl,rfl⟩:=aM.mp e2;refine aC3 hu h0 hk hv S f e1 c.1 c.2.1 c.2.2 λh' en n t' μ' st g D=>?_;have kp:∀b o,s.heap.get? b=some o→(s.heap.push (dictOf [] 0)).get? b=some o:=λb o e=>Heap.get?_push_of_some _ e;have sz:(s.heap.push (dictOf [] 0)).objs.size=s.heap.objs.size+1:=Heap.size_push ..;have st':Stp X w hZ s.heap μ Y h' μ' Y₁:=Stp.over kp (λb q=>.inl q) (λb q=>by rw[q];exact zN) st;refine h _ _ _ _ st' ?_;have D':=D.kept (Kept.less (X:=X) λb q=>.inl q);have noX:¬X s.heap.objs.size:=λq=>by obtain⟨o,e⟩:=(S.frames _ q).2;rw[zN]at e;cases e
  show ∃_,_;refine⟨s.heap.objs.size,en,n,rfl,⟨st.st.notWr (.inr rfl),λq=>noX q⟩,?_,g,D'.keys,D'.hash,D'.vals,D'.nodup,by simp;lia⟩;obtain⟨o,a⟩:=S.low;rw[beq_eq_false_iff_ne];intro q;have:=S.base _ _ a;rw[←q,zN]at this;cases this
 ·exact aV e2
theorem aQ6 {call:CT}{ks:List (Option Expr)}{vs:List Expr}{pos:Pos}(hu:A.units+20 < cLine)(h0:ks≠[])
  (hk:∀X' O' e,some e∈ks→Pc w hZ X' O' A sc env ρ (ev call e sc ρ) (eval e env)) (hv:∀X' O',∀e∈vs,Pc w hZ X' O' A sc env ρ (ev call e sc ρ) (eval e env)) :
  Pc w hZ X O A sc env ρ (aB (fU (rQ call ks sc ρ) (kG call vs sc ρ)) λkv=>if(kv.map (·.1)).Nodup∧kv.all (λe=>kS e.1)=true∧kv.length≤15 then bN (.dict kv)else fail) (eval (.Dict ks vs pos) env):=by
 intro E s μ Y Y' x Q S f e h;replace e:=aG.mp e;obtain⟨kv,Y₁,e1,e2⟩:=e;split at e2
 ·rename_i c;obtain⟨rfl,rfl⟩:=pQ.mp e2;refine aC3 hu h0 hk hv S f e1 c.1 c.2.1 c.2.2 λh' en n t' μ' st g D=>?_;have kp:∀b o,s.heap.get? b=some o→(s.heap.push (dictOf [] 0)).get? b=some o:=λb o e=>Heap.get?_push_of_some _ e;have sz:(s.heap.push (dictOf [] 0)).objs.size=s.heap.objs.size+1:=Heap.size_push ..;have st':Stp X w hZ s.heap μ Y h' μ' Y₁:=Stp.over kp (λb q=>.inl q) (λb q=>by rw[q];exact zN) st;have S2:=st.st;have g':=g
  let l:Loc:=⟨s.heap.objs.size,s.heap.objs.size⟩
  have get:∀{k:Nat} {l':Loc},(μ'++[l])[k]?=some l'→(k < μ'.length∧μ'[k]?=some l')∨(k=μ'.length∧l'=l):=by
   intro k l' g;by_cases q:k < μ'.length
   ·rw[List.getElem?_append_left q]at g;exact .inl ⟨q,g⟩
   ·have q2:k=μ'.length:=by
     have:=(zG g).1;simp at this;lia
    subst q2;rw[zJ]at g;simp only[List.getElem?_cons_zero,Option.some.injEq]at g;exact .inr ⟨rfl,g.symm⟩
  have wr:∀b,Wr (μ'++[l]) (Y₁++[.dict kv]) b→Wr μ' Y₁ b∨b=s.heap.objs.size:=by
   rintro b ⟨m,l',o₁,g1,g2,g3,g4⟩;rcases get g1 with⟨q,g1⟩ | ⟨_,rfl⟩
   ·rw[List.getElem?_append_left (by rw[←S2.len];exact q)]at g2;exact .inl ⟨m,l',o₁,g1,g2,g3,g4⟩
   ·exact .inr (g4.elim id id)
  have K:Kept h' μ' (Fz (λb=>X b∨b=s.heap.objs.size) μ' Y₁) h' (μ'++[l]) (Fz X (μ'++[l]) (Y₁++[.dict kv])):=
   ⟨List.prefix_append _ _,λb o e f=>⟨e,λq=>(wr b q).elim f.1 λz=>f.2 (.inr z),λq=>f.2 (.inl q)⟩⟩
  have D':=D.kept K;have nn:s.heap.get? s.heap.objs.size=none:=zN;have nX:¬X s.heap.objs.size:=λq=>by obtain⟨o,e⟩:=(S.frames _ q).2;rw[nn]at e;cases e
  have S3:Sta X w hZ h' (μ'++[l]) (Y₁++[.dict kv]):=by
   refine⟨by simp[S2.len],λm l' o'' g1 g2=>?_,λm m' l₁ l₂ hne g1 g2=>?_,S2.base,S2.low,λm l' g=>?_,λa q=>S2.frames a (.inl q),λm l' g=>?_⟩
   ·rcases get g1 with⟨q,g1⟩ | ⟨q,rfl⟩
    ·rw[List.getElem?_append_left (by rw[←S2.len];exact q)]at g2;exact(S2.obj m l' o'' g1 g2).carry K (λ_ z=>z) (λ_ z=>z)
    ·subst q;rw[S2.len,zJ]at g2;simp only[List.getElem?_cons_zero,Option.some.injEq]at g2;subst g2;exact⟨en,n,g,rfl,D'.keys,D'.hash,D'.vals,D'.nodup,by lia⟩
   ·rcases get g1 with⟨a1,b1⟩ | ⟨a1,rfl⟩<;>rcases get g2 with⟨a2,b2⟩ | ⟨a2,rfl⟩
    ·exact S2.apart m m' _ _ hne b1 b2
    ·have q:=S2.offX _ _ b1
     exact⟨λz=>q.1 (.inr z),λz=>q.1 (.inr z),λz=>q.2 (.inr z),λz=>q.2 (.inr z)⟩
    ·have q:=S2.offX _ _ b2
     exact⟨λz=>q.1 (.inr z.symm),λz=>q.2 (.inr z.symm),λz=>q.1 (.inr z.symm),λz=>q.2 (.inr z.symm)⟩
    ·exact absurd (a1.trans a2.symm) hne
   ·rcases get g with⟨a1,b1⟩ | ⟨a1,rfl⟩
    ·exact S2.off m l' b1
    ·exact⟨S.none0 nn,S.none0 nn,⟨_,g'⟩,⟨_,g'⟩⟩
   ·rcases get g with⟨a1,b1⟩ | ⟨a1,rfl⟩
    ·have q:=S2.offX m l' b1
     exact⟨λz=>q.1 (.inl z),λz=>q.2 (.inl z)⟩
    ·exact⟨nX,nX⟩
  have st3:Stp X w hZ s.heap μ Y h' (μ'++[l]) (Y₁++[.dict kv]):=
   ⟨st'.pre.trans (List.prefix_append _ _),S3,st'.keep,λb q=>(wr b q).elim (st'.wr b) λz=>.inr (by rw[z];exact nn)⟩
  refine h _ _ _ _ st3 ?_;show ∃_,_;refine⟨l,?_,rfl⟩;rw[←S2.len,zJ];rfl
 ·exact aV e2
end
section
variable {X X' O:Addr→Prop}{w:World}{h h' hZ:Heap}{μ μ':List Loc}{F F':Addr→Prop}{A:Around}{sc:Scope}{env:Env}{ρ:LE}{E:Value→Shared→Prop}{s:Shared}{Y Y':H}{n m:Nat}{l:Loc}{k x y z v:V}{u key:Value}{d:Addr}{en:List DictEntry}{es:List (V×V)}{xs:List V}{vs us:List Value}{Q:Value→Shared→Prop}
theorem bG6 (S:Sta X w hZ s.heap μ Y)(r:cD w s.heap μ (Fz X μ Y) x u)(e:(aB (c8 x) λxs=>ret (.int xs.length)) Y=some (z,Y'))(h:cU X w hZ s μ Y Y' z Q) :
  wpAny (model prog w) A (call (.builtin "len") [u]) Q E s:=by
 replace e:=aG.mp e;obtain⟨xs,_,e1,e⟩:=e;replace e:=aM.mp e;obtain⟨rfl,rfl⟩:=e;obtain⟨rfl,hz,a,vs,n,rfl,rl,g⟩:=br3 S r e1;have hl:=bO rl;rcases g with g | g
 ·refine PyProof.Rows.len_list (kD g) (by rw[List.size_toArray];lia) ?_;rw[List.size_toArray,←hl];exact h _ _ _ _ (Stp.same S) (gU ..)
 ·refine PyProof.Rows.len_tuple (uW g) (by rw[List.size_toArray];lia) ?_;rw[List.size_toArray,←hl];exact h _ _ _ _ (Stp.same S) (gU ..)
open PyProof.Rows.LSm in
theorem aD2:∀{xs:List V} {bs:List Bool} {vs:List Value},iZ xs=some bs→bC w h μ F xs vs→BoolsAre vs bs:=by
 intro ll
 induction ll with
 | nil=>
  intro bs vs e r;cases e;subst r;exact .nil
 | cons x xs ih=>
  intro bs vs e r;obtain⟨b,hb,e⟩:=zO (show((aq2 x).bind λi=>(iZ xs).map (i::·))=some bs from e);obtain⟨bs',hbs,rfl⟩:=Option.map_eq_some_iff.mp e;obtain⟨v,r,rfl,a,q⟩:=r;cases ba0 hb;subst a;exact .cons _ (ih hbs q)
open PyProof.Rows.LSm in
theorem bB9 {bs:List Bool}{l:Addr}(hh:A.handled=none)(hl:s.heap.IsList l vs.toArray)(hb:BoolsAre vs bs)
  (h:∀h' tk,(∀b o,s.heap.get? b=some o→h'.get? b=some o)→Q (.bool (bs.all id)) { s with heap:=h',toks:=tk }):wpAny (model prog w) A (call (.builtin "all") [.ref l]) Q E s:=by
 have hlt:l < s.heap.objs.size:=by obtain⟨_,e,_⟩:=hl;exact Heap.lt_size e
 refine call_all_walk (wpAny_pyIter_list hl ?_);refine⟨s.heap.objs.size,[s.heap.objs.size,l],[s.heap.objs.size],vs.toArray.size,_,_,λi=>(bs[i]?).getD true,rfl,Walks.list (A:=A.in1) hh _ l (Nat.ne_of_lt hlt) vs.toArray,
  ⟨⟨_,Heap.get?_push_size _ rfl,rfl,rfl⟩,hl.push _⟩,λi v s' Q' E' hP hQ=>?_,λh' tk hk=>?_⟩
 ·obtain⟨b,e,rfl⟩:=hb.get i v (by simpa using hP);simp only[e,Option.getD_some]at hQ;exact wpAny_truthy_bool hQ
 ·have e:((List.range vs.toArray.size).all λi=>(bs[i]?).getD true)=bs.all id:=by
   rw[List.size_toArray,hb.length];exact range_all bs
  rw[e];exact h h' tk (kept_iter hk)
open PyProof.Rows.LSm in
theorem bB7 {bs:List Bool}{l:Addr}(hh:A.handled=none)(hl:s.heap.IsList l vs.toArray)(hb:BoolsAre vs bs)
  (h:∀h' tk,(∀b o,s.heap.get? b=some o→h'.get? b=some o)→Q (.bool (bs.any id)) { s with heap:=h',toks:=tk }):wpAny (model prog w) A (call (.builtin "any") [.ref l]) Q E s:=by
 have hlt:l < s.heap.objs.size:=by obtain⟨_,e,_⟩:=hl;exact Heap.lt_size e
 refine call_any_walk (wpAny_pyIter_list hl ?_);refine⟨s.heap.objs.size,[s.heap.objs.size,l],[s.heap.objs.size],vs.toArray.size,_,_,λi=>(bs[i]?).getD false,rfl,Walks.list (A:=A.in1) hh _ l (Nat.ne_of_lt hlt) vs.toArray,
  ⟨⟨_,Heap.get?_push_size _ rfl,rfl,rfl⟩,hl.push _⟩,λi v s' Q' E' hP hQ=>?_,λh' tk hk=>?_⟩
 ·obtain⟨b,e,rfl⟩:=hb.get i v (by simpa using hP);simp only[e,Option.getD_some]at hQ;exact wpAny_truthy_bool hQ
 ·have e:((List.range vs.toArray.size).any λi=>(bs[i]?).getD false)=bs.any id:=by
   rw[List.size_toArray,hb.length];exact range_any bs
  rw[e];exact h h' tk (kept_iter hk)
theorem bo9 (hh:A.handled=none)(S:Sta X w hZ s.heap μ Y)(r:cD w s.heap μ (Fz X μ Y) x u)(e:(aB (u6 x) λbs=>ret (.bool (bs.all jG.id_))) Y=some (z,Y'))(h:cU X w hZ s μ Y Y' z Q) :
  wpAny (model prog w) A (call (.builtin "all") [u]) Q E s:=by
 replace e:=aG.mp e;obtain⟨bs,_,e1,e⟩:=e;replace e:=aM.mp e;obtain⟨rfl,rfl⟩:=e;have q0:=aq0 e1;clear e1;obtain⟨xs,rfl,e1,rfl⟩:=q0;obtain⟨a,vs,k,rfl,_,g,rl,_⟩:=r;refine bB9 hh (kD g) (aD2 e1 rl) λh' tk hk=>?_;have:bs.all id=bs.all jG.id_:=rfl;rw[this];exact h _ _ _ _ (Stp.ext S hk) (lI ..)
theorem bo8 (hh:A.handled=none)(S:Sta X w hZ s.heap μ Y)(r:cD w s.heap μ (Fz X μ Y) x u)(e:(aB (u6 x) λbs=>ret (.bool (bs.any jG.id_))) Y=some (z,Y'))(h:cU X w hZ s μ Y Y' z Q) :
  wpAny (model prog w) A (call (.builtin "any") [u]) Q E s:=by
 replace e:=aG.mp e;obtain⟨bs,_,e1,e⟩:=e;replace e:=aM.mp e;obtain⟨rfl,rfl⟩:=e;have q0:=aq0 e1;clear e1;obtain⟨xs,rfl,e1,rfl⟩:=q0;obtain⟨a,vs,k,rfl,_,g,rl,_⟩:=r;refine bB7 hh (kD g) (aD2 e1 rl) λh' tk hk=>?_;have:bs.any id=bs.any jG.id_:=rfl;rw[this];exact h _ _ _ _ (Stp.ext S hk) (lI ..)
theorem yI (x:Int):∀l:List Int,(ax3 x l).Perm (x::l)
 | []=>List.Perm.refl _
 | y::r=>by
  show(if x≤y then x::y::r else y::ax3 x r).Perm _;split
  ·exact List.Perm.refl _
  ·exact((yI x r).cons y).trans (List.Perm.swap x y r)
theorem ae8:∀l:List Int,(nL l).Perm l
 | []=>List.Perm.nil
 | x::r=>(yI x _).trans ((ae8 r).cons x)
theorem aO8 (x:Int):∀l:List Int,l.Pairwise (·≤·)→(ax3 x l).Pairwise (·≤·):=by
 intro ll
 induction ll with
 | nil=>
  exact λ_=>List.pairwise_singleton _ _
 | cons y r ih=>
  intro h;show(if x≤y then x::y::r else y::ax3 x r).Pairwise _;rw[List.pairwise_cons]at h;split
  ·rename_i q;rw[List.pairwise_cons];refine⟨λz hz=>?_,by rw[List.pairwise_cons];exact h⟩;rcases List.mem_cons.mp hz with rfl | hz
   ·exact q
   ·exact Int.le_trans q (h.1 z hz)
  ·rename_i q;rw[List.pairwise_cons];refine⟨λz hz=>?_,ih h.2⟩;rcases List.mem_cons.mp ((yI x r).mem_iff.mp hz)with rfl | hz
   ·lia
   ·exact h.1 z hz
theorem vB:∀l:List Int,(nL l).Pairwise (·≤·)
 | []=>List.Pairwise.nil
 | x::r=>aO8 x _ (vB r)
theorem aE5 {l l':List Int}(p:l'.Perm l)(s:l'.Pairwise (·≤·)):l'=nL l:=
 List.Perm.eq_of_pairwise (λa b _ _ h1 h2=>Int.le_antisymm h1 h2) s (vB l) (p.trans (ae8 l).symm)
theorem ay9:∀{ns:List Int} {vs:List Value},IntsAre vs ns→bC w h μ F (ns.map .int) vs:=by
 intro ns vs p
 induction p with
 | nil=>rfl
 | cons n t r ih=>exact bC.cons (by show ∃_,_;exact⟨t,rfl⟩) ih
theorem aX0:∀{xs:List V} {ns:List Int},nH xs=some ns→xs=ns.map .int:=by
 intro ll
 induction ll with
 | nil=>
  intro ns e;cases e;rfl
 | cons x r ih=>
  intro ns e;obtain⟨i,hi,e⟩:=zO (show((cA x).bind λi=>(nH r).map (i::·))=some ns from e);obtain⟨ns',hns,rfl⟩:=Option.map_eq_some_iff.mp e;rw[yH hi,ih hns];rfl
def bk1:List Int→List DictEntry→List (Int×Value)
 | n::ns,e::en=>(n,e.val)::bk1 ns en
 | _,_=>[]
theorem aW4:∀{ns:List Int} {en:List DictEntry},bC w h μ F (ns.map .int) (en.map (·.key))→en.map (·.hash)=fA w (ns.map .int)→
  Pairs (PySem.intKind prog w) en (bk1 ns en)∧(bk1 ns en).map (·.1)=ns∧(bk1 ns en).length=ns.length∧∀e∈en,∃k,(PySem.intKind prog w).is k e.key=true∧e.hash=hashInt k
 :=by
 intro ns
 induction ns with
 | nil=>
  intro en r hh;have r:=List.map_eq_nil_iff.mp r;subst r;exact⟨.nil,rfl,rfl,λe he=>by simp at he⟩
 | cons n ns ih=>
  intro en r hh;cases en with
  | nil=>obtain⟨_,_,e,_⟩:=r;cases e
  | cons e en=>
  obtain⟨_,_,e0,a,b⟩:=r;obtain⟨rfl,rfl⟩:=List.cons.inj e0;have hh:e.hash=hashInt n∧en.map (·.hash)=fA w (ns.map .int):=List.cons.inj hh;obtain⟨p1,p2,p3,p4⟩:=ih b hh.2;obtain⟨t,a⟩:=a;have a:e.key=.int n t:=a;have is:(PySem.intKind prog w).is n e.key=true:=by rw[a];simp[PySem.intKind,Value.isInt]
  refine⟨.cons is rfl p1,congrArg (List.cons n) p2,congrArg Nat.succ p3,λx hx=>?_⟩;rcases List.mem_cons.mp hx with rfl | hx
  ·exact⟨n,is,hh.1⟩
  ·exact p4 x hx
theorem aU1 (hh:A.handled=none)(S:Sta X w hZ s.heap μ Y)(r:cD w s.heap μ (Fz X μ Y) x u)(e:ac5 x Y=some (z,Y'))(h:cU X w hZ s μ Y Y' z Q) :
  wpAny (model prog w) A (call (.builtin "sorted") [u]) Q E s:=by
 have q0:=jE e;clear e;obtain⟨n,rfl,e⟩:=q0;replace e:=aG.mp e;obtain⟨es,_,z0,e⟩:=e
 first | replace z0:=kU.mp z0 | replace z0:=aY.mp z0 | replace z0:=bB.mp z0
 obtain⟨e2,rfl⟩:=z0
 try replace e2:=zD e2
 replace e:=aG.mp e;obtain⟨_,_,z1,e⟩:=e
 first | replace z1:=kU.mp z1 | replace z1:=aY.mp z1 | replace z1:=bB.mp z1
 obtain⟨hz,rfl⟩:=z1
 try replace hz:=zD hz
 replace e:=aG.mp e;obtain⟨ks,_,z2,e⟩:=e
 first | replace z2:=kU.mp z2 | replace z2:=aY.mp z2 | replace z2:=bB.mp z2
 obtain⟨e3,rfl⟩:=z2
 try replace e3:=zD e3
 replace e:=aM.mp e;obtain⟨rfl,rfl⟩:=e;obtain⟨l,e1,rfl⟩:=r;obtain⟨en,m,D,hd,hs⟩:=S.dict e1 e2;have hks:=aX0 e3;have kl:ks.length=es.length:=by have:=congrArg List.length hks;simpa using this.symm
 have Dk:=D.keys;have Dh:=D.hash
 rw[hks]at Dk Dh;obtain⟨p1,p2,p3,p4⟩:=aW4 Dk Dh;have hat:s.heap.DictAt (PySem.intKind prog w) l.a (bk1 ks en) m:=⟨_,en.toArray,D.at_,⟨rfl,rfl,rfl⟩,rfl,λe he=>p4 e (by simpa using he),p1,by
  have nd:=D.nodup;rw[hks]at nd;rw[p2];exact(List.pairwise_map.mp nd).imp λh e=>h (by rw[e])⟩
 refine Calls.call_function_entry kind_sorted plain_sorted entry_sorted (args_sorted1 _) ?_;unfold Builtin.«sorted»;refine zW (m:=checkCount "sorted" 1 1 _) (zP ?_);refine zW (kdu_collect (A:=A.in1) (kdl_dict (knd:=PySem.intKind prog w) (kvs:=bk1 ks en) (ep:=m) hs) hh hat (by rw[p3,aZ];lia) λh' tk acc hk hacc=>?_);have hI:IntsAre acc.toList ks:=by
  have go:∀(ks:List Int) (vs:List Value),vs.length=ks.length→(∀(j:Nat) (v:Value),vs[j]?=some v→∃k:Int,ks[j]?=some k∧(PySem.intKind prog w).is k v=true)→IntsAre vs ks:=by
   intro ks
   induction ks with
   | nil=>intro vs hl _;rw[List.length_eq_zero_iff.mp hl];exact .nil
   | cons k ks ih=>
    intro vs hl hv;cases vs with
    | nil=>simp at hl
    | cons v vs=>
     obtain⟨k',h1,h2⟩:=hv 0 v rfl;simp only[List.getElem?_cons_zero,Option.some.injEq]at h1;subst h1;obtain⟨t,rfl⟩:=Value.isInt_shape h2;refine .cons _ t (ih vs (by simpa using hl) λj v hj=>?_);obtain⟨k',g2,g3⟩:=hv (j+1) v (by simpa using hj);exact⟨k',by simpa using g2,g3⟩
  refine go ks _ (by rw[Array.length_toList,hacc.1,p3]) λj v hj=>?_;obtain⟨k,x,hx,hkk⟩:=hacc.2 j v (by rw[←Array.getElem?_toList];exact hj);have:ks[j]?=some k:=by rw[←p2,List.getElem?_map,hx];rfl
  exact⟨k,this,hkk⟩
 have hlen:acc.toList.length=ks.length:=by rw[Array.length_toList,hacc.1,p3]
 refine zW (wpAny_newList ?_ (by rw[hlen,aZ];lia));have hoL:(h'.push (seqObj "list" acc.toList.toArray 0)).get? h'.objs.size=some (seqObj "list" acc.toList.toArray 0):=Heap.get?_push_size _ rfl;refine zW (wpAny_holding (wpAny_call_entry slot_list_sort ⟨_,hoL,rfl⟩ entry_list_sort (list_sort_tree hoL hI (by lia) λout ns' a1 a2 a3=>⟨_,rfl,?_⟩) (args_list_sort _)));refine zP ⟨_,rfl,?_⟩;have keep:∀b o,s.heap.get? b=some o→(sortedHeap (h'.push (seqObj "list" acc.toList.toArray 0)) h'.objs.size acc.toList out).get? b=some o:=λb o e=>by
  have lt:=Heap.lt_size (hk b o e);rw[sortedHeap_old (Nat.ne_of_lt lt) (by rw[size_push'];exact Nat.lt_succ_of_lt lt)];exact Heap.get?_push_of_some _ (hk b o e)
 obtain⟨ep,hout⟩:=sortedHeap_at (out:=out) hoL;have st:=Stp.ext S keep;have hns:=aE5 a2 a3;refine h _ _ tk _ st ?_;show ∃_,_;refine⟨h'.objs.size,out.toList,ep,rfl,?_,hout,by rw[←hns];exact ay9 a1,by rw[←hns];have:=a2.length_eq;simp;lia⟩;have nf:s.heap.get? h'.objs.size=none:=by
  cases q:s.heap.get? h'.objs.size with
  | none=>rfl
  | some o=>exact absurd (Heap.lt_size (hk _ _ q)) (Nat.lt_irrefl _)
 exact S.fresh' nf
theorem aW8 {x y:V}(e:aW9 x y Y=some (z,Y')):y=.ty "str"∧Y=Y'∧((∃t,x=.str t∧z=.bool true)∨∃i,x=.int i∧z=.bool false):=by
 have q:∀{t b},(aB (dD (t == "str")) λ_=>ret (.bool b)) Y=some (z,Y')→V.ty t=.ty "str"∧Y=Y'∧z=.bool b:=λ{t b} e=>by
  obtain⟨_,_,h1,h2⟩:=aG.mp e;have p:=aM.mp h2;exact⟨congrArg V.ty (beq_iff_eq.mp (aY.mp h1).1),(aY.mp h1).2.trans p.2,p.1⟩
 refine Fl.opq2 x y λP hP=>?_;revert e;cases x<;>first | exact aV | skip
 ·cases y<;>first | exact aV | skip
  exact λe=>hP _ _ ⟨(q e).1,(q e).2.1,.inr ⟨_,rfl,(q e).2.2⟩⟩
 ·cases y<;>first | exact aV | skip
  exact λe=>hP _ _ ⟨(q e).1,(q e).2.1,.inl ⟨_,rfl,(q e).2.2⟩⟩
theorem bl1 (S:Sta X w hZ s.heap μ Y)(r:cD w s.heap μ (Fz X μ Y) x u)(q:cD w s.heap μ (Fz X μ Y) y v')(e:aW9 x y Y=some (z,Y'))(h:cU X w hZ s μ Y Y' z Q) :
  wpAny (model prog w) A (call (.builtin "isinstance") [u,v']) Q E s:=by
 obtain⟨rfl,rfl,⟨t,rfl,rfl⟩ | ⟨i,rfl,rfl⟩⟩:=aW8 e
 ·obtain⟨t,rfl⟩:=r;subst q;exact IsiPair.str_str (h _ _ _ _ (Stp.same S) (lI ..))
 ·obtain⟨t,rfl⟩:=r;subst q;exact IsiPair.int_str (h _ _ _ _ (Stp.same S) (lI ..))
theorem sD {f:V→M V}{vs:List V}:one f vs Y=some (z,Y')↔∃x,vs=[x]∧f x Y=some (z,Y'):=by
 refine⟨λe=>?_,λ⟨_,h1,h2⟩=>by cases h1;exact h2⟩;cases vs with
 | nil=>exact aV e
 | cons x r=>cases r with
  | nil=>exact⟨x,rfl,e⟩
  | cons _ _=>exact aV e
theorem bD6 {f:V→V→M V}{vs:List V}:two f vs Y=some (z,Y')↔∃x y,vs=[x,y]∧f x y Y=some (z,Y'):=by
 refine⟨λe=>?_,λ⟨_,_,h1,h2⟩=>by cases h1;exact h2⟩;cases vs with
 | nil=>exact aV e
 | cons x r=>cases r with
  | nil=>exact aV e
  | cons y r=>cases r with
   | nil=>exact⟨x,y,rfl,e⟩
   | cons _ _=>exact aV e
theorem bV0 {id:String}{xs:List V}(hh:A.handled=none)(S:Sta X w hZ s.heap μ Y)(r:bC w s.heap μ (Fz X μ Y) xs us)(e:jG id xs Y=some (z,Y'))(h:cU X w hZ s μ Y Y' z Q) :
  wpAny (model prog w) A (call (.builtin id) us) Q E s:=by
 unfold jG at e;split at e
 ·rename_i q;subst q;obtain⟨x,rfl,e0⟩:=sD.mp e;obtain⟨v,_,rfl,r,rfl⟩:=r;exact bG6 S r e0 h
 split at e
 ·rename_i q;subst q;obtain⟨x,rfl,e0⟩:=sD.mp e;obtain⟨v,_,rfl,r,rfl⟩:=r;exact aU1 hh S r e0 h
 split at e
 ·rename_i q;subst q;obtain⟨x,rfl,e0⟩:=sD.mp e;obtain⟨v,_,rfl,r,rfl⟩:=r;exact bo9 hh S r e0 h
 split at e
 ·rename_i q;subst q;obtain⟨x,rfl,e0⟩:=sD.mp e;obtain⟨v,_,rfl,r,rfl⟩:=r;exact bo8 hh S r e0 h
 split at e
 ·rename_i q;subst q;obtain⟨x,y,rfl,e0⟩:=bD6.mp e;obtain⟨v,_,rfl,r,v',_,rfl,r',rfl⟩:=r;exact bl1 S r r' e0 h
 ·exact aV e
theorem bO5 {id:String}{xs:List V}(S:Sta X w hZ s.heap μ Y)(r:bC w s.heap μ (Fz X μ Y) xs us)(e:tyV id xs Y=some (z,Y'))(h:cU X w hZ s μ Y Y' z Q) :
  wpAny (model prog w) A (call (.type id) us) Q E s:=by
 unfold tyV at e;split at e
 ·rename_i q;subst q;obtain⟨x,rfl,e0⟩:=sD.mp e;obtain⟨v,_,rfl,r,rfl⟩:=r;have q0:=aU5 e0;clear e0 e;obtain⟨n,rfl,hn,rfl,rfl⟩:=q0;obtain⟨t,rfl⟩:=r;refine call_range_1 (h _ _ _ _ (Stp.push S _) ?_);show ∃_,_;exact⟨_,_,_,_,rfl,S.fresh zR,IsRange.new ..,hn⟩
 split at e
 ·rename_i q;subst q;obtain⟨x,rfl,e0⟩:=sD.mp e;obtain⟨v,_,rfl,r,rfl⟩:=r;have q0:=aT6 e0;clear e0 e;obtain⟨xs,rfl,rfl,rfl⟩:=q0;obtain⟨a,vs,k,rfl,_,g,rl,hz⟩:=r;have hl:=bO rl;refine call_tuple_list (kD g) (λh' hk=>?_) (by rw[List.size_toArray,aZ];lia);have st:=Stp.ext S hk;obtain⟨st2,r2⟩:=Stp.tup (s:={ s with heap:=h' }) st.st (st.repL rl) hz;exact h _ _ s.toks _ (st.trans st2) r2
 ·exact aV e
end
theorem bm3 {α β:Type}{l:List α}{f:α→β→Sem (ForInStep β)}(c:β)(h:∀x∈l,f x c=pure (.yield c)):forIn l c f=pure c:=by
 induction l with
 | nil=>rfl
 | cons x r ih=>
  rw[List.forIn_cons,h x zS,pure_bind];exact ih λy hy=>h y (zC _ hy)
theorem z8:∀{names:List Str} {us:List Value} {n:Str},us.length=names.length→n∈names→∃v,(names.zip us).lookup n=some v:=by
 intro names
 induction names with
 | nil=>intro _ n _ h;simp at h
 | cons m ms ih=>
  intro us n e h;cases us with
  | nil=>cases e
  | cons u us=>
  simp only[List.zip_cons_cons,List.lookup_cons];cases q:n==m with
  | true=>exact⟨u,rfl⟩
  | false=>
   rcases List.mem_cons.mp h with rfl | h
   ·simp at q
   ·exact ih (Nat.succ.inj e) h
theorem bx1 {α β:Type}{f g:α→Option β}:∀{l:List α},(∀x∈l,f x=g x)→l.filterMap f=l.filterMap g:=by
 intro ll
 induction ll with
 | nil=>
  intro _;exact rfl
 | cons x r ih=>
  intro h;rw[List.filterMap_cons,List.filterMap_cons,h x zS,ih λy hy=>h y (zC _ hy)]
theorem ar2:∀{names:List Str} {us:List Value},us.length=names.length→names.Nodup→(names.filterMap λn=>((names.zip us).lookup n).map λv=>(n,v))=names.zip us:=by
 intro names
 induction names with
 | nil=>exact λ_ _=>rfl
 | cons m ms ih=>
  intro us e nd;cases us with
  | nil=>cases e
  | cons u us=>
  rw[List.nodup_cons]at nd;replace ih:=ih (us:=us) (Nat.succ.inj e) nd.2;have key:(ms.filterMap λn=>(((m,u)::ms.zip us).lookup n).map λv=>(n,v))=ms.filterMap λn=>((ms.zip us).lookup n).map λv=>(n,v):=by
   apply bx1;intro n hn;have:(n==m)=false:=by rw[beq_eq_false_iff_ne];rintro rfl;exact nd.1 hn
   rw[List.lookup_cons,this]
  rw[List.zip_cons_cons,List.filterMap_cons];have h0:((m,u)::ms.zip us).lookup m=some u:=by rw[List.lookup_cons,beq_self_eq_true]
  rw[h0,key,ih];rfl
theorem ca0 {α β:Type}{M:Model}{A:Around}{E:Value→Shared→Prop}{Q:β→Shared→Prop}{s:Shared}{c d:Sem α}{f:α→Sem β}(e:c=d)(h:wpAny M A (d >>= f) Q E s):wpAny M A (c >>= f) Q E s:=e▸h
theorem bs7 {α β:Type}{M:Model}{A:Around}{E:Value→Shared→Prop}{Q:β→Shared→Prop}{s:Shared}{a:α}{f:α→Sem β}(h:wpAny M A (f a) Q E s):wpAny M A (pure a >>= f) Q E s:=by rw[pure_bind];exact h
theorem ifW {α:Type}{M:Model}{A:Around}{E:Value→Shared→Prop}{Q:α→Shared→Prop}{s:Shared}{c:Prop} [Decidable c] {x y:Sem α}(n:¬c)(h:wpAny M A y Q E s):wpAny M A (if c then x else y) Q E s:=by rw[if_neg n];exact h
theorem bo0 {s:Shared}{fd:FuncData}{names:List Str}{us:List Value}(hp:fd.params.posonlyargs=[])(hk:fd.params.kwonlyargs=[])(hv:fd.params.vararg=none)(hw:fd.params.kwarg=none)
  (ps:fd.params.args.map (·.arg)=names) (nd:names.Nodup) (hl:us.length=names.length) (hd:∀(M:Model) (A:Around) (E:Value→Shared→Prop) (Q:Option (Array Value)→Shared→Prop),(∀r,Q r s)→wpAny M A (seqItems? fd.defaults) Q E s) :
  BindsTo s fd ⟨us,[]⟩ (names.zip us):=by
 obtain⟨_,_,⟨po,ar,va,ko,_,kw,_⟩,_,_,_,_,_,_,_,_,_,_,_,_⟩:=fd;cases (show po=[]from hp);cases (show ko=[]from hk);cases (show va=none from hv);cases (show kw=none from hw);cases (show ar.map (·.arg)=names from ps);clear hp hk hv hw ps;have none_of:∀n∈(ar.map (·.arg)),(((ar.map (·.arg)).zip us).lookup n).isNone=false:=λn hn=>by
  obtain⟨v,e⟩:=z8 hl hn;rw[e];rfl
 have miss:∀k,((ar.map (·.arg)).take k).filter (λn=>(((ar.map (·.arg)).zip us).lookup n).isNone)=[]:=λk=>by
  rw[List.filter_eq_nil_iff];intro n hn;rw[none_of n (List.mem_of_mem_take hn)];simp
 have zf:=ar2 hl nd;intro M A E Q hq;refine bs7 (zW (hd _ _ _ _ λr=>?_));refine ifW ?_ ?_
 ·show ¬(decide (us.length > (ar.map (·.arg)).length)&&true)=true;rw[hl,Bool.and_true,decide_eq_true_eq];exact Nat.lt_irrefl _
 refine ifW ?_ ?_
 ·show ¬(!(((ar.map (·.arg)).take _).filter λn=>(((ar.map (·.arg)).zip us).lookup n).isNone).isEmpty)=true;rw[miss];exact Bool.false_ne_true
 refine ca0 (bm3 ((ar.map (·.arg)).zip us) λx hx=>?_) (bs7 ?_)
 ·have:x.1∈ar.map (·.arg):=List.mem_of_mem_drop (List.of_mem_zip hx).1
  show(if(((ar.map (·.arg)).zip us).lookup x.1).isNone=true then _ else _)=_;rw[none_of _ this];rfl
 refine bs7 ?_;refine ifW ?_ ?_
 ·exact Bool.false_ne_true
 refine zP ?_;show Q (List.filterMap (λn=>(((ar.map (·.arg)).zip us).lookup n).map λv=>(n,v)) (ar.map (·.arg)++[])) s;rw[List.append_nil,zf];exact hq
structure FnAt (hZ:Heap) (i j:Nat) (f:Fn):Prop where
 ex:∃o fd,hZ.get? (B.fa i j)=some o∧o.data=.func fd∧fd.scope=f.sc∧fd.body=.stmts f.body∧fd.closure=[]∧fd.globals=mainGlobals∧fd.builtins=builtinsNs∧hZ.CodeRec fd.code fd.qualname∧
  fd.params.posonlyargs=[]∧fd.params.kwonlyargs=[]∧fd.params.vararg=none∧fd.params.kwarg=none∧fd.params.args.map (·.arg)=f.ps∧
  (fd.defaults=.none∨∃T o items n,fd.defaults=.ref T∧hZ.get? T=some o∧o.data=.seq items n)
 ok:aG2 f.sc=true
section
variable (w:World)(h:Heap)(μ:List Loc)(F:Addr→Prop)
inductive FlRep:Fl→Flow→Prop
 | next:FlRep .next .next
 | ret {v:V} {u:Value}:cD w h μ F v u→FlRep (.ret v) (.ret u)
end
section
variable (w:World)(hZ:Heap)(n:Nat)
structure AOc (n:Nat) (A:Around):Prop where
 handled:A.handled=none
 depth:A.depth+5 * n+2 < recursionLimit
 units:A.units+20 * n+50 < cLine
theorem AOk.call {n:Nat}{A:Around}(a:AOk n A):AOc n A:=⟨a.handled,by have:=a.depth;lia,by have:=a.units;lia⟩
theorem AOk.make {n:Nat}{A:Around}(a:AOk n A)(C:Addr)(vals:List Value):AOc n (A.under (.builtin "type.__call__" ⟨.ref C::vals,[]⟩)):=
 ⟨a.handled,by have:=a.depth;show A.depth+1+5 * n+2 < _;lia,by have:=a.units;show A.units+1+20 * n+50 < _;lia⟩
def NoE:Value→Shared→Prop:=λ_ _=>False
def c0 (m:Scope→LE→M (Fl×LE))(t:Env→Sem Flow):Prop:=∀(X O:Addr→Prop) (A:Around) (sc:Scope) (env:Env) (s:Shared) (μ:List Loc) (Y Y':H) (ρ:LE) (p:Fl×LE) (Q:Flow→Shared→Prop),
 AOk n A→Sta X w hZ s.heap μ Y→FrameAt X O w sc env s.heap μ (Fz X μ Y) ρ→m sc ρ Y=some (p,Y')→
 (∀fl h' t' μ',Stf X O w hZ s.heap μ Y h' μ' Y'→FrameAt X O w sc env h' μ' (Fz X μ' Y') p.2→FlRep w h' μ' (Fz X μ' Y') p.1 fl→Q fl { s with heap:=h',toks:=t' })→
 wpAny (model prog w) A (t env) Q NoE s
def p8 (call:CT):Prop:=∀(i j:Nat) (vs:List V) (us:List Value) (X:Addr→Prop) (A:Around) (s:Shared) (μ:List Loc) (Y Y':H) (x:V) (R:Result→Shared→Prop),
 AOc n A→Sta X w hZ s.heap μ Y→bC w s.heap μ (Fz X μ Y) vs us→call (.fn i j) vs Y=some (x,Y')→
 (∀v h' t' μ',Stp X w hZ s.heap μ Y h' μ' Y'→cD w h' μ' (Fz X μ' Y') x v→R (.ok (.ret v)) { s with heap:=h',toks:=t' })→
 codeAny (model prog w) A (.call (.ref (B.fa i j)) ⟨us,[]⟩) R s
end
theorem lX {x:Str}:∀(names:List (Str×NameKind)) (n:Nat) (acc:List (Str×Addr)),((x,NameKind.cell)∈names∨(acc.lookup x).isSome=true)→((cellsFrom n names acc).lookup x).isSome=true:=by
 intro ll
 induction ll with
 | nil=>
  intro n acc h;rcases h with h | h
  ·simp at h
  ·exact h
 | cons p0 r ih=>
  intro n acc h;obtain⟨y,k⟩:=p0;unfold cellsFrom;split
  ·rename_i hk;refine ih _ _ ?_;rcases h with h | h
   ·rcases List.mem_cons.mp h with e | h
    ·cases e;right;rw[List.lookup_cons,beq_self_eq_true];rfl
    ·exact .inl h
   ·right;rw[List.lookup_cons];split
    ·rfl
    ·exact h
  ·rename_i hk;refine ih _ _ ?_;rcases h with h | h
   ·rcases List.mem_cons.mp h with e | h
    ·cases e;simp at hk
    ·exact .inl h
   ·exact .inr h
section
variable {X:Addr→Prop}{w:World}{h h' hZ:Heap}{μ μ':List Loc}{F:Addr→Prop}{A:Around}{s:Shared}{Y Y':H}{n:Nat}{x:V}
theorem bA9 (kindOf:Str→Option NameKind):∀(ps:List Str) (vs:List V) (us:List Value) (ρ ρ':LE) (m cm:Str→Option Value),cZ ps vs ρ=some ρ'→bC w h μ F vs us→
  (∀p∈ps,kindOf p=some .local∨kindOf p=some .cell)→
  (∀x v,kindOf x=some .local→ρ x=some v→∃u,m x=some u∧cD w h μ F v u)→(∀x v,kindOf x=some .cell→ρ x=some v→∃u,cm x=some u∧cD w h μ F v u)→
  (∀x v,kindOf x=some .local→ρ' x=some v→∃u,bindL kindOf (ps.zip us) m x=some u∧cD w h μ F v u)∧(∀x v,kindOf x=some .cell→ρ' x=some v→∃u,bindC kindOf (ps.zip us) cm x=some u∧cD w h μ F v u):=by
 intro ps
 induction ps with
 | nil=>
  intro vs us ρ ρ' m cm e r hk h1 h2;rcases dG e with⟨_,rfl,rfl⟩ | ⟨_,_,_,_,q,_⟩
  ·simp only[List.zip_nil_left,bindL,bindC];exact⟨h1,h2⟩
  ·cases q
 | cons p ps ih=>
  intro vs us ρ ρ' m cm e r hk h1 h2;have e0:=dG e;clear e;rcases e0 with⟨q,_⟩ | ⟨_,_,v,vs,q,rfl,e⟩
  ·cases q
  cases q;obtain⟨u,us,rfl,a,b⟩:=r;simp only[List.zip_cons_cons,bindL,bindC];have hk':=λq hq=>hk q (zC _ hq);rcases hk p zS with q | q
  ·rw[if_pos q,if_pos q];refine ih vs us _ _ _ _ e b hk' (λx v' hx e'=>?_) λx v' hx e'=>?_
   ·unfold upd at e';by_cases z:x=p
    ·rw[if_pos z]at e' ⊢;cases e';exact⟨u,rfl,a⟩
    ·rw[if_neg z]at e' ⊢;exact h1 x v' hx e'
   ·unfold upd at e';have z:x≠p:=by rintro rfl;rw[q]at hx;cases hx
    rw[if_neg z]at e';exact h2 x v' hx e'
  ·have q':¬kindOf p=some .local:=by rw[q];decide
   rw[if_neg q',if_neg q'];refine ih vs us _ _ _ _ e b hk' (λx v' hx e'=>?_) λx v' hx e'=>?_
   ·unfold upd at e';have z:x≠p:=by rintro rfl;rw[q]at hx;cases hx
    rw[if_neg z]at e';exact h1 x v' hx e'
   ·unfold upd at e';by_cases z:x=p
    ·rw[if_pos z]at e' ⊢;cases e';exact⟨u,rfl,a⟩
    ·rw[if_neg z]at e' ⊢;exact h2 x v' hx e'
theorem AOc.deeper (a:AOc (n+1) A)(env:Env):AOk n (A.deeper env):=⟨a.handled,by have:=a.depth;show A.depth+1+5 * n+5 < _;lia,by have:=a.units;show A.units+3+20 * n+60 < _;lia⟩
theorem bS6 {call:CT}{f:Fn}{i j:Nat}{vs:List V}{us:List Value}{R:Result→Shared→Prop}(lim:hZ.NoLimit)(FA:FnAt hZ i j f)(body:c0 w hZ n (λsc ρ=>uH call f.body sc ρ) (λenv=>execs f.body env))
  (hA:AOc (n+1) A) (S:Sta X w hZ s.heap μ Y) (r:bC w s.heap μ (Fz X μ Y) vs us) (e:yX call f vs Y=some (x,Y'))
  (h:∀v h' t' μ',Stp X w hZ s.heap μ Y h' μ' Y'→cD w h' μ' (Fz X μ' Y') x v→R (.ok (.ret v)) { s with heap:=h',toks:=t' }) :
  codeAny (model prog w) A (.call (.ref (B.fa i j)) ⟨us,[]⟩) R s:=by
 obtain⟨o,fd,ho,hd,hsc,hbody,hclo,hglob,hblt,hcd,p1,p2,p3,p4,p5,hdef⟩:=FA.ex;have ok:=FA.ok;unfold yX at e;simp only[aG,bB,aY,aM,Bool.and_eq_true,List.all_eq_true,decide_eq_true_eq]at e;obtain⟨ρ,_,⟨eb,rfl⟩,_,_,⟨⟨hloc,nd⟩,rfl⟩,p,_,ex,rfl,rfl⟩:=e;have hl:=bO r;have hl':=uI eb;have ok':=ok;unfold aG2 at ok';simp only[Bool.and_eq_true,beq_iff_eq,Bool.not_eq_true']at ok';obtain⟨⟨⟨hkind,_⟩,hco⟩,hgen⟩:=ok';have kinds:∀y∈f.ps,f.sc.names.lookup y=some .local∨f.sc.names.lookup y=some .cell:=λy hy=>am6 (hloc y hy);refine codeAny_call_function (body:=f.body) (by have:=hA.depth;lia) (S.base _ _ ho) hd (by rw[hsc];exact hco) (by rw[hsc];exact hgen) hbody (hcd.keeps S.base) ?_;have bd:BindsTo s fd ⟨us,[]⟩ (f.ps.zip us):=bo0 p1 p2 p3 p4 p5 nd (by lia) λM A E Q hq=>by
  rcases hdef with q | ⟨T,oT,items,k,q,hT,hdT⟩
  ·rw[q];exact zP (hq _)
  ·rw[q];exact wpAny_seqItems (S.base _ _ hT) hdT (hq _)
 refine bd _ _ _ _ ?_;rw[hclo];refine wpAny_newFunctionEnv_cells (by rw[hsc];exact hkind) (λy hy=>?_) λenv he s₁ IC=>?_
 ·have hm:=(List.of_mem_zip hy).1
  rw[hsc];rcases kinds _ hm with q | q
  ·exact .inl q
  ·exact .inr ⟨q,lX _ _ _ (.inl (cQ q))⟩
 ·obtain⟨h₁,tk,rfl⟩:=IC.toInCall.same;have keep:∀b o,s.heap.get? b=some o→h₁.get? b=some o:=IC.toInCall.keep;refine⟨(lim.keeps S.base).keeps keep,codeAny_func ?_⟩;have esc:env.scope=f.sc:=by rw[he,←hsc];rfl
  have eglob:env.globals=mainGlobals:=by rw[he,←hglob];rfl
  have eblt:env.builtins=builtinsNs:=by rw[he,←hblt];rfl
  have eL:env.locals=s.heap.objs.size:=by rw[he];rfl
  have eC:env.cells=cellsFrom (s.heap.objs.size+1) f.sc.names []:=by rw[he,←hsc];rfl
  have kof:∀y,env.kindOf y=f.sc.names.lookup y:=λy=>by show env.scope.names.lookup y=_;rw[esc]
  let O:Addr→Prop:=λb=>b=env.locals∨∃y,env.cells.lookup y=some b
  let X':Addr→Prop:=λb=>X b∨O b
  have hX:∀b,X b→X' b:=λb q=>.inl q;have isC:∀y c,env.cells.lookup y=some c→∃o,h₁.get? c=some o:=λy c q=>let ⟨o,e,_⟩:=IC.cell y c q;⟨o,e⟩
  have hO:∀b,O b→s.heap.get? b=none:=by
   rintro b (rfl | ⟨y,q⟩)
   ·rw[eL];exact zN
   ·have:=IC.above y b (cQ q)
    rw[eL]at this;exact Heap.get?_none_of_le (Nat.le_of_lt this)
  have hX':∀b,X' b→X b∨(s.heap.get? b=none∧∃o,h₁.get? b=some o):=by
   rintro b (q | q)
   ·exact .inl q
   ·refine .inr ⟨hO b q,?_⟩;rcases q with rfl | ⟨y,q⟩
    ·obtain⟨o,_,_,e,_⟩:=IC.toInCall.ns;exact⟨o,e⟩
    ·exact isC y b q
  have S₁:Sta X' w hZ h₁ μ Y:=S.frame keep hX hX';have K:=Kept.frame S keep hX';have r':=bC.kept K _ _ r;obtain⟨b1,b2⟩:=bA9 (kindOf:=env.kindOf) f.ps vs us _ _ (λ_=>none) (λ_=>none) eb r' (λy hy=>by rw[kof];exact kinds y hy) (λ_ _ _ e=>by cases e) (λ_ _ _ e=>by cases e);have FR:FrameAt X' O w f.sc env h₁ μ (Fz X' μ Y) ρ:=by
   refine⟨ok,by rw[esc];exact hkind,λy q=>by rw[kof];exact q,λy q=>by rw[kof];exact q,λy q=>.inr (by rw[kof];exact q),λy q=>by rw[kof];exact q,eglob,eblt,λb q=>.inr q,.inl rfl,λy q=>?_,λy c q=>.inr (.inr ⟨y,q⟩),λy z c _ q1 q2=>?_,λy c q=>?_,?_,λy v q e=>?_⟩
   ·obtain⟨c,hc⟩:=Option.isSome_iff_exists.mp (lX (x:=y) f.sc.names (s.heap.objs.size+1) [] (.inl (cQ q)));rw[←eC]at hc;exact⟨c,_,hc,.inr ⟨y,hc⟩,IC.cell y c hc⟩
   ·exact name_of_addr IC.apart (cQ q1) (cQ q2)
   ·exact Nat.ne_of_gt (IC.above y c (cQ q))
   ·exact⟨_,IC.toInCall.ns,λy v q e=>b1 y v (by rw[kof];exact q) e⟩
   ·rcases q with q | q
    ·obtain⟨u,hu,ru⟩:=b2 y v (by rw[kof];exact q) e;obtain⟨c,hc⟩:=Option.isSome_iff_exists.mp (lX (x:=y) f.sc.names (s.heap.objs.size+1) [] (.inl (cQ q)));rw[←eC]at hc;exact⟨c,u,hc,hu▸IC.cell y c hc,ru⟩
    ·have notp:y∉f.ps:=λhm=>by rcases kinds y hm with z | z<;>rw[q]at z<;>cases z
     have:ρ y=none:=by
      exact rT notp eb
     rw[this]at e;cases e
  refine wpAny_mono (body X' O _ f.sc env { s with heap:=h₁,toks:=tk } μ Y _ ρ p _ (hA.deeper env) S₁ FR ex λfl h' t' μ' st fr flr=>?_) (λ_ _ z=>z) (λ_ _ z=>z.elim);have over:Stp X w hZ s.heap μ Y h' μ' _:=Stp.over keep hX hO st;cases p with
  | mk p1 p2=>
  cases flr with
  | next=>exact h _ _ _ _ over (qK ..)
  | ret r=>exact h _ _ _ _ over (cD.kept (Kept.less hX) _ _ r)
end
structure WOk (w:World) (hZ:Heap) (K:Frag):Prop where
 kin:K.In hZ
 lim:hZ.NoLimit
 glob:GlobOk w hZ
 cls:∀c∈w5,ClsOk K c
 fn:∀i j f,aT i j=some f→FnAt hZ i j f
def l7 (call:CT):Prop:=∀i j vs Y p,call (.fn i j) vs Y=some p→∃f,aT i j=some f
section
variable {X O:Addr→Prop}{w:World}{h h' hZ:Heap}{μ μ':List Loc}{F:Addr→Prop}{A:Around}{sc:Scope}{env:Env}{ρ:LE}{E:Value→Shared→Prop}{s:Shared}{Y Y':H}{n m:Nat}{x y z v:V}{u:Value}{K:Frag}{call:CT}{us:List Value}{xs:List V}{Q:Value→Shared→Prop}
theorem xI:∀(es:List Expr) {fz:Bool} {call:CT} {Y Y':H} {xs:List V} {pos:Pos},j0 fz (kG call es sc ρ) Y=some (xs,Y')→backTo pos (starEach es env)=(evalEach es env).map λt=>(false,t):=by
 intro ll
 induction ll with
 | nil=>
  intro _ _ _ _ _ _ _;exact rfl
 | cons e es ih=>
  intro fz call Y Y' xs pos q;have e':(aB (ev call e sc ρ) λv=>aB (if fz then aA v else ret v) λv=>aB (j0 fz (kG call es sc ρ)) λvs=>ret (v::vs)) Y=some (xs,Y'):=q;replace e':=aG.mp e';obtain⟨a,Y₁,e1,e'⟩:=e';replace e':=aG.mp e';obtain⟨b,Y₂,e2,e'⟩:=e';replace e':=aG.mp e';obtain⟨vs,Y₃,e3,e'⟩:=e';have ih2:=ih (pos:=pos) e3;have hns:starEach (e::es) env=(false,eval e env)::starEach es env:=by
   cases e<;>first | rfl | exact aV e1
  rw[hns];show(false,eval e env)::backTo pos (starEach es env)=(false,eval e env)::(evalEach es env).map λt=>(false,t);rw[ih2]
theorem aH9 {f:Value}{ts:List (Sem Value)}{M:Model}{Q:Args→Shared→Prop}(h:wpAny M A (spliced (ts.map λt=>(false,t))) (λvs s'=>Q ⟨vs,[]⟩ s') E s):wpAny M A (evalArgs f true (ts.map λt=>(false,t)) []) Q E s:=by
 cases ts with
 | nil=>
  unfold evalArgs;show wpAny M A (spliced [] >>= _) Q E s;refine zW (wpAny_mono h (λvs s' h'=>?_) λ_ _ x=>x)
  first
   | exact wpAny_holding (zW (zP (zW (zP (zP h')))))
   | exact zW (zP (wpAny_holding (zW (zP (zW (zP (zP h')))))))
 | cons t ts=>exact Calls.evalArgs_plain h
theorem aS7 {fz:Bool}{f:Value}{es:List Expr}{pos:Pos}{ts:List (Sem Value)}(hp:Pcs w hZ X O A sc env ρ (kG call es sc ρ) ts)(ht:evalEach es env=ts){Q:Args→Shared→Prop}
  (S:Sta X w hZ s.heap μ Y) (fr:FrameAt X O w sc env s.heap μ (Fz X μ Y) ρ) (e:j0 fz (kG call es sc ρ) Y=some (xs,Y'))
  (h:∀us h' t' μ',Stp X w hZ s.heap μ Y h' μ' Y'→bC w h' μ' (Fz X μ' Y') xs us→Q ⟨us,[]⟩ { s with heap:=h',toks:=t' }) :
  wpAny (model prog w) A (evalArgs f true (backTo pos (starEach es env)) []) Q E s:=by
 rw[xI es (pos:=pos) e,ht];exact aH9 (xA hp S fr e h)
theorem az3 {es:List Expr}{fz:Bool}{pos:Pos}(e:j0 fz (kG call es sc ρ) Y=some (xs,Y')):(backTo pos (starEach es env)).any (·.1)=false:=by
 rw[xI es (pos:=pos) e];simp
theorem bu2 {c:Nat}(WO:WOk w hZ K)(FO:p8 w hZ n call)(hA:AOk n A)(S:Sta X w hZ s.heap μ Y)(r:bC w s.heap μ (Fz X μ Y) xs us)(e:jY call c xs Y=some (z,Y'))(h:cU X w hZ s μ Y Y' z Q) :
  wpAny (model prog w) A (PySem.call (.ref (B.ca c)) us) Q E s:=by
 unfold jY at e;simp only[aG,aY,pQ,aM]at e;obtain⟨_,_,⟨hc,rfl⟩,_,_,⟨rfl,rfl⟩,v,Y₂,e2,_,_,⟨hn,rfl⟩,rfl,rfl⟩:=e;have ck:=WO.cls c (by simpa using hc);have Xk:=WO.kin.keeps S.base;have hv:v=.none:=yG hn;subst hv;refine wpAny_call ?_;obtain⟨hh,g,d,t,os⟩:=s;refine make_core (makes_of Xk ck.makes) (looks_findIn Xk ck.init.1) (λself=>bind_fn Xk self ck.init.2) (.inl rfl) ?_;have sz:(hh.push emptyDict).objs.size=hh.objs.size+1:=Heap.size_push ..;have k1:∀b o,hh.get? b=some o→((hh.push emptyDict).push (instObj (B.ca c) hh.objs.size)).get? b=some o:=λb o e=>Heap.get?_push_of_some _ (Heap.get?_push_of_some _ e);have ga:((hh.push emptyDict).push (instObj (B.ca c) hh.objs.size)).get? (hh.objs.size+1)=some (instObj (B.ca c) hh.objs.size):=by rw[←sz];exact Heap.get?_push_size _ rfl
 have gd:((hh.push emptyDict).push (instObj (B.ca c) hh.objs.size)).get? hh.objs.size=some (dictOf [] 0):=Heap.get?_push_of_some _ (Heap.get?_push_size _ rfl);have st:Stp X w hZ hh μ Y ((hh.push emptyDict).push (instObj (B.ca c) hh.objs.size)) (μ++[⟨hh.objs.size+1,hh.objs.size⟩]) (Y++[.inst c []]):=by
  refine Stp.alloc S k1 ⟨Heap.get?_none_of_le (Nat.le_succ _),_,ga⟩ ⟨zN,_,gd⟩ λ_=>?_;exact⟨ga,[],0,gd,rfl,by simp,by simpa using hc⟩
 have rself:cD w ((hh.push emptyDict).push (instObj (B.ca c) hh.objs.size)) (μ++[⟨hh.objs.size+1,hh.objs.size⟩]) (Fz X (μ++[⟨hh.objs.size+1,hh.objs.size⟩]) (Y++[.inst c []])) (.ref Y.length) (.ref (hh.objs.size+1)):=by
  show ∃_,_;refine⟨⟨hh.objs.size+1,hh.objs.size⟩,?_,rfl⟩;rw[←S.len,zJ];rfl
 refine FO c 1 (.ref Y.length::xs) (.ref (hh.objs.size+1)::us) X _ ⟨_,g,d,t,os⟩ _ _ _ _ _ (hA.make _ _) st.st (by exact bC.cons (rself) (st.repL r)) e2 λv h2 t2 μ2 st2 rv=>?_;exact⟨rv,h _ _ _ _ (st.trans st2) (st2.rep rself)⟩
theorem aI5 {f:Str}{p pos:Pos}{es:List Expr}{ts:List (Sem Value)}(WO:WOk w hZ K)(OF:l7 call)(FO:p8 w hZ n call)(hA:AOk n A)(hf:Pc w hZ X O A sc env ρ (ev call (.Name f p) sc ρ) (eval (.Name f p) env))
  (hp:Pcs w hZ X O A sc env ρ (kG call es sc ρ) ts) (ht:evalEach es env=ts) :
  Pc w hZ X O A sc env ρ (aB (ev call (.Name f p) sc ρ) λfv=>aB (j0 (bw3 fv) (kG call es sc ρ)) λvs=>aR3 call fv vs) (eval (.Call (.Name f p) es [] pos) env):=by
 intro E s μ Y Y' x Q S fr e h;replace e:=aG.mp e;obtain⟨fv,Y₁,e1,e⟩:=e;replace e:=aG.mp e;obtain⟨vs,Y₂,e2,e3⟩:=e;show wpAny _ _ (do callWith pos (←eval (.Name f p) env) [] (backTo pos (starEach es env)) (backToKw pos (keywordEach [] env))) _ _ _;refine zW (hf _ _ _ _ _ _ _ S fr e1 λuf h1 t1 μ1 st1 rf=>?_);have fr1:=fr.step S st1;have args:=λ(fu:Value) {Q:Args→Shared→Prop} (k:∀us h' t' μ',Stp X w hZ h1 μ1 Y₁ h' μ' Y₂→bC w h' μ' (Fz X μ' Y₂) vs us→Q ⟨us,[]⟩ { s with heap:=h',toks:=t' })=>
  aS7 (s:={ s with heap:=h1,toks:=t1 }) (E:=E) (f:=fu) (pos:=pos) hp ht st1.st fr1 e2 k
 have pl:(backTo pos (starEach es env)).any (·.1)=false:=az3 e2;clear e1 e2 hf;cases fv
 case fn i j=>
  have e3':call (.fn i j) vs Y₂=some (x,Y'):=e3;obtain⟨g,hg⟩:=OF _ _ _ _ _ e3';obtain⟨o,fd,ho,hd,_⟩:=(WO.fn i j g hg).ex;subst rf;refine Calls.callWith_function (o:=o) (fd:=fd) (args _ λus h2 t2 μ2 st2 rl=>⟨⟨st2.st.base _ _ ho,hd⟩,?_⟩);refine wpAny_call (FO i j vs us X A { s with heap:=h2,toks:=t2 } μ2 Y₂ Y' x _ hA.call st2.st rl e3' λv h3 t3 μ3 st3 rv=>?_);exact h _ _ _ _ ((st1.trans st2).trans st3) rv
 case cl c=>
  have e3':jY call c vs Y₂=some (x,Y'):=e3;have hc:c∈w5:=by
   have e4:=e3';unfold jY at e4;replace e4:=aG.mp e4;obtain⟨_,_,z0,e4⟩:=e4;replace z0:=aY.mp z0;obtain⟨hc,_⟩:=z0
   simpa using hc
  subst rf;refine callWith_of (P:=K.In) (by rw[pl];rfl) (keeps_K (WO.cls c hc).keep) (args _ λus h2 t2 μ2 st2 rl=>⟨WO.kin.keeps st2.st.base,?_⟩);exact bu2 (s:={ s with heap:=h2,toks:=t2 }) WO FO hA st2.st rl e3' (cU.after (s:={ s with heap:=h1,toks:=t1 }) st2 (cU.after (s:=s) st1 h))
 case bi id=>
  have e3':jG id vs Y₂=some (x,Y'):=e3;subst rf;refine Calls.callWith_builtin pl (args _ λus h2 t2 μ2 st2 rl=>?_);exact bV0 (s:={ s with heap:=h2,toks:=t2 }) hA.handled st2.st rl e3' (cU.after (s:={ s with heap:=h1,toks:=t1 }) st2 (cU.after (s:=s) st1 h))
 case ty t=>
  have e3':tyV t vs Y₂=some (x,Y'):=e3;subst rf;refine PySem.callWith_type pl (args _ λus h2 t2 μ2 st2 rl=>?_);exact bO5 (s:={ s with heap:=h2,toks:=t2 }) st2.st rl e3' (cU.after (s:={ s with heap:=h1,toks:=t1 }) st2 (cU.after (s:=s) st1 h))
 all_goals exact aV e3
theorem bf6 {o:Expr}{x:Str}{whole:Sem Value}(hb:pP o=true):attributeBase o x env whole=whole:=by
 cases o
 case Call f as ks p=>
  cases f
  case Name id q=>
   cases as with
   | cons _ _=>rfl
   | nil=>cases ks with
    | cons _ _=>rfl
    | nil=>
     have this:(id != ("super":Str))=true:=hb
     delta attributeBase
     dsimp only;rw[this];rfl
  all_goals rfl
 all_goals rfl
def bC5 (K:Frag)(l:Addr)(x:Str):MK→Value→Prop
 | .py c j,f=>f=.ref (B.fa c j)
 | .li,f=>(x=Mine.Internal.S "append"∧f=.builtin "list.append")∨(x=Mine.Internal.S "extend"∧f=.builtin "list.extend")∨(x=Mine.Internal.S "reverse"∧f=.builtin "list.reverse")∨(x=Mine.Internal.S "pop"∧f=.builtin "list.pop")
 | .di,f=>f=.builtin "dict.get"
theorem bj2 {name:Str}{p:MK×H}(e:bF name y Y=some p):(∃ks ws,y=.dct ks ws∧aB (dD (decide (name=Mine.Internal.S "get"))) (λ_=>ret MK.di) Y=some p)∨∃n,y=.ref n∧aB (yY n) (λo=>aA1 name o) Y=some p:=by
 refine Fl.opq1 y λP hP=>?_;revert e;cases y
 case dct ks ws=>exact λe=>hP _ (.inl ⟨ks,ws,rfl,e⟩)
 case ref n=>exact λe=>hP _ (.inr ⟨n,rfl,e⟩)
 all_goals exact aV
theorem aP4 {name:Str}{pl:Sem Bool}{k:MK}{Q:Value×List Value→Shared→Prop}(WO:WOk w hZ K)(S:Sta X w hZ s.heap μ Y)(r:cD w s.heap μ (Fz X μ Y) y u)(e:bF name y Y=some (k,Y'))
  (h:∀f a,Y=Y'→u=.ref a→bC5 K a name k f→Q (f,[u]) s):wpAny (model prog w) A (getMethod u name pl) Q E s:=by
 have e1:=bj2 e;clear e;rcases e1 with⟨ks,ws,rfl,e⟩ | ⟨n,rfl,e⟩
 ·simp only[aG,aY,aM,decide_eq_true_eq]at e;obtain⟨_,_,⟨rfl,rfl⟩,rfl,es⟩:=e;obtain⟨a,en,m,rfl,D,_,_⟩:=aY7 r;exact getMethod_builtin (dT D) PySem.F.plainAttrs_dict PySem.F.slot_dict_get PySem.F.type_dict_get (λb e=>by cases e;exact⟨_,D.at_,rfl⟩) (h _ _ es rfl rfl)
 ·replace e:=aG.mp e;obtain⟨o,_,z0,e⟩:=e;replace z0:=jJ.mp z0;obtain⟨e2,rfl⟩:=z0;obtain⟨l,e1,rfl⟩:=r;obtain⟨es,q0⟩:=bj3 e;clear e;rcases q0 with⟨xs,rfl,hx,rfl⟩ | ⟨fs,rfl,rfl,rfl⟩ | ⟨c,fs,rfl,hn,e3⟩
  ·obtain⟨vs,n,g,_,rl,hz⟩:=S.obj _ _ _ e1 e2;have hT:s.TypeIs (.ref l.a) "list":=⟨_,g,rfl⟩;have hd:∀a,Value.ref l.a=.ref a→∃o,s.heap.get? a=some o∧o.dict=none:=λb e=>by cases e;exact⟨_,g,rfl⟩
   rcases hx with rfl | rfl | rfl | rfl
   ·exact getMethod_builtin hT PySem.F.plainAttrs_list PySem.F.slot_list_append PySem.F.type_list_append hd (h _ _ es rfl (.inl ⟨rfl,rfl⟩))
   ·exact getMethod_builtin hT PySem.F.plainAttrs_list PySem.F.slot_list_extend PySem.F.type_list_extend hd (h _ _ es rfl (.inr (.inl ⟨rfl,rfl⟩)))
   ·exact getMethod_builtin hT PySem.F.plainAttrs_list PySem.F.slot_list_reverse PySem.F.type_list_reverse hd (h _ _ es rfl (.inr (.inr (.inl ⟨rfl,rfl⟩))))
   ·exact getMethod_builtin hT PySem.F.plainAttrs_list PySem.F.slot_list_pop PySem.F.type_list_pop hd (h _ _ es rfl (.inr (.inr (.inr ⟨rfl,rfl⟩))))
  ·obtain⟨en,m,D,hd,hs⟩:=S.dict e1 e2;exact getMethod_builtin (dT D) PySem.F.plainAttrs_dict PySem.F.slot_dict_get PySem.F.type_dict_get (λb e=>by cases e;exact⟨_,D.at_,rfl⟩) (h _ _ es rfl rfl)
  ·obtain⟨j,hj,rfl⟩:=Option.map_eq_some_iff.mp e3;obtain⟨en,k,I,gd,rf,nd,hc⟩:=S.inst e1 e2;have ck:=WO.cls _ hc;obtain⟨m1,m2⟩:=ck.meth _ _ hj;refine method_fn (WO.kin.keeps S.base) I ck.ga ck.gt m1 m2 ?_ (h _ _ es rfl rfl);have:=(mT rf).2 (by simpa using hn);show(lookIn name (dictOf en k)).map (·.isSome)=some false;rw[lookIn_dict,this];rfl
theorem ba6 {s t:String}(h:s.toList.map Char.toNat≠t.toList.map Char.toNat):Mine.Internal.S s≠Mine.Internal.S t:=by
 unfold Mine.Internal.S;rw[Str.ofString_eq_toList,Str.ofString_eq_toList];intro e;have h1:=congrArg Str.cps e;simp only at h1;exact h (congrArg Array.toList h1)
theorem bj6 {name:Str}{f:Value}{l:Loc}(hx:bC5 K l.a name .li f)(S:Sta X w hZ s.heap μ Y)(e1:μ[m]?=some l)(rs:bC w s.heap μ (Fz X μ Y) xs us)(e:bd0 name (.ref m) xs Y=some (z,Y'))(h:cU X w hZ s μ Y Y' z Q) :
  wpAny (model prog w) A (PySem.call f (.ref l.a::us)) Q E s:=by
 have ae:Mine.Internal.S "append"≠Mine.Internal.S "extend":=ba6 (by decide);have ar:Mine.Internal.S "append"≠Mine.Internal.S "reverse":=ba6 (by decide);have ap:Mine.Internal.S "append"≠Mine.Internal.S "pop":=ba6 (by decide);have er:Mine.Internal.S "extend"≠Mine.Internal.S "reverse":=ba6 (by decide);have ep:Mine.Internal.S "extend"≠Mine.Internal.S "pop":=ba6 (by decide);have rp:Mine.Internal.S "reverse"≠Mine.Internal.S "pop":=ba6 (by decide);cases xs with
 | nil=>
  have e':aA2 name m Y=some (z,Y'):=e;subst rs;have k:=bj9 (A:=A) (E:=E) S e1 e' h;rcases hx with⟨rfl,rfl⟩ | ⟨rfl,rfl⟩ | ⟨rfl,rfl⟩ | ⟨rfl,rfl⟩<;>rcases k with⟨q,k⟩ | ⟨q,k⟩
  ·exact absurd q ar
  ·exact absurd q ap
  ·exact absurd q er
  ·exact absurd q ep
  ·exact k
  ·exact absurd q rp
  ·exact absurd q.symm rp
  ·exact k
 | cons v xs=>
  cases xs with
  | cons _ _=>exact aV e
  | nil=>
  have e':bd1 name m v Y=some (z,Y'):=e;obtain⟨uv,_,rfl,rv,rfl⟩:=rs;have k:=bj8 (A:=A) (E:=E) S e1 rv e' h;rcases hx with⟨rfl,rfl⟩ | ⟨rfl,rfl⟩ | ⟨rfl,rfl⟩ | ⟨rfl,rfl⟩<;>rcases k with⟨q,k⟩ | ⟨q,k⟩
  ·exact k
  ·exact absurd q ae
  ·exact absurd q.symm ae
  ·exact k
  ·exact absurd q.symm ar
  ·exact absurd q.symm er
  ·exact absurd q.symm ap
  ·exact absurd q.symm ep
theorem bj7 {name:Str}{ov:V}{vs:List V}{p:V×H}(e:bd0 name ov vs Y=some p):∃m,ov=.ref m:=by
 refine Fl.opq1 ov λP hP=>?_;revert e;cases ov
 case ref m=>exact λ_=>hP _ ⟨m,rfl⟩
 all_goals exact aV
theorem aI6 {o:Expr}{name:Str}{ap pos:Pos}{es:List Expr}{ts:List (Sem Value)}{mo:M V}(WO:WOk w hZ K)(OF:l7 call)(FO:p8 w hZ n call)(hA:AOk n A)(ho:Pc w hZ X O A sc env ρ mo (eval o env))
  (hp:Pcs w hZ X O A sc env ρ (kG call es sc ρ) ts) (ht:evalEach es env=ts) :
  Pc w hZ X O A sc env ρ (aB (dD (pP o&&yQ ap pos es)) λ_=>aB mo λov=>aB (bF name ov) λk=>aB (j0 (cG k) (kG call es sc ρ)) λvs=>bD call k name ov vs) (eval (.Call (.Attribute o name ap) es [] pos) env):=by
 intro E s μ Y Y' x Q S fr e h;replace e:=aG.mp e;obtain⟨_,_,z0,e⟩:=e;replace z0:=aY.mp z0;obtain⟨y0,rfl⟩:=z0;obtain⟨hb,hc⟩:=zB y0;replace e:=aG.mp e;obtain⟨ov,Y₁,e1,e⟩:=e;replace e:=aG.mp e;obtain⟨k,Y₂,e2,e⟩:=e;replace e:=aG.mp e;obtain⟨vs,Y₃,e3,e4⟩:=e;unfold yQ at hc;simp only[Bool.and_eq_true,decide_eq_true_eq]at hc;rw[arm_eval_Call,bf6 hb];have pl:(backTo pos (starEach es env)).any (·.1)=false:=az3 e3;have form:methodCallForm (es.length+([]:List Keyword).length) (backTo pos (starEach es env)) (backToKw pos (keywordEach [] env))=true:=by
  have h1:(backTo pos (starEach es env)).all (λx=>!x.1)=true:=by
   rw[xI es (pos:=pos) e3];simp
  show((backTo pos (starEach es env)).all (λx=>!x.1)&&true&&decide (es.length+0+0 < 30))=true;rw[h1];simp;lia
 refine zW (ho _ _ _ _ _ _ _ S fr e1 λuo h1 t1 μ1 st1 ro=>zW (wpAny_standAt ?_));have fr1:=fr.step S st1;unfold methodCall;rw[form];have hpos:methodCallPos true o env ap pos=pure pos:=by unfold methodCallPos;simp[hc.1]
 rw[hpos];show wpAny _ _ (holding [uo] (getMethod uo name _) >>= _) _ _ _;refine zW (wpAny_holding (aP4 (s:={ s with heap:=h1,toks:=t1 }) WO st1.st ro e2 λf a es' ha hf=>zW (zP ?_)));subst es';show wpAny _ _ (callWith pos f [uo] (backTo pos (starEach es env)) []) _ _ _;have args:=λ(fu:Value) {Q:Args→Shared→Prop} (k:∀us h' t' μ',Stp X w hZ h1 μ1 Y₁ h' μ' Y₃→bC w h' μ' (Fz X μ' Y₃) vs us→Q ⟨us,[]⟩ { s with heap:=h',toks:=t' })=>
  aS7 (s:={ s with heap:=h1,toks:=t1 }) (E:=E) (f:=fu) (pos:=pos) hp ht st1.st fr1 e3 k
 cases k
 case py c j=>
  have e4':call (.fn c j) (ov::vs) Y₃=some (x,Y'):=e4;obtain⟨g,hg⟩:=OF _ _ _ _ _ e4';obtain⟨o,fd,ho,hd,_⟩:=(WO.fn c j g hg).ex;have hf':f=.ref (B.fa c j):=hf;subst hf';refine Calls.callWith_function (o:=o) (fd:=fd) (args _ λus h2 t2 μ2 st2 rl=>⟨⟨st2.st.base _ _ ho,hd⟩,?_⟩);refine wpAny_call (FO c j (ov::vs) (uo::us) X A { s with heap:=h2,toks:=t2 } μ2 Y₃ Y' x _ hA.call st2.st (by exact bC.cons (st2.rep ro) (rl)) e4' λv h3 t3 μ3 st3 rv=>?_);exact h _ _ _ _ ((st1.trans st2).trans st3) rv
 case li=>
  have e4':bd0 name ov vs Y₃=some (x,Y'):=e4;have bu:∃id,f=.builtin id:=by rcases hf with⟨_,rfl⟩ | ⟨_,rfl⟩ | ⟨_,rfl⟩ | ⟨_,rfl⟩<;>exact⟨_,rfl⟩
  obtain⟨id,rfl⟩:=bu;refine Calls.callWith_builtin pl (args _ λus h2 t2 μ2 st2 rl=>?_);obtain⟨m,hm⟩:=bj7 e4';have ro2:=st2.rep ro;rw[hm]at ro2 e4';obtain⟨l,el,rfl⟩:=ro2;cases ha;exact bj6 (s:={ s with heap:=h2,toks:=t2 }) hf st2.st el rl e4' (cU.after (s:={ s with heap:=h1,toks:=t1 }) st2 (cU.after (s:=s) st1 h))
 case di=>
  have e4':be5 ov vs Y₃=some (x,Y'):=e4;have hf':f=.builtin "dict.get":=hf;subst hf';refine Calls.callWith_builtin pl (args _ λus h2 t2 μ2 st2 rl=>?_);exact bm7 (s:={ s with heap:=h2,toks:=t2 }) (by have:=hA.units;lia) st2.st (st2.rep ro) rl e4' (cU.after (s:={ s with heap:=h1,toks:=t1 }) st2 (cU.after (s:=s) st1 h))
theorem bo2 {o:Expr}{name:Str}{ap:Pos}{mo:M V}(WO:WOk w hZ K)(ho:Pc w hZ X O A sc env ρ mo (eval o env)) :
  Pc w hZ X O A sc env ρ (aB (dD (pP o)) λ_=>aB mo λov=>aR name ov) (eval (.Attribute o name ap) env):=by
 intro E s μ Y Y' x Q S fr e h;replace e:=aG.mp e;obtain⟨_,_,z0,e⟩:=e;replace z0:=aY.mp z0;obtain⟨hb,rfl⟩:=z0;replace e:=aG.mp e;obtain⟨ov,Y₁,e1,e2⟩:=e;rw[arm_eval_Attribute,bf6 hb];refine zW (ho _ _ _ _ _ _ _ S fr e1 λuo h1 t1 μ1 st1 ro=>zW (wpAny_standAt (zW (wpAny_holding ?_))));exact aS3 (s:={ s with heap:=h1,toks:=t1 }) WO.kin WO.cls st1.st ro e2 λv h2 t2 μ2 st2 rv=>zW (wpAny_letTemporaryGo (zP (h _ _ _ _ (st1.trans st2) rv)))
end
def eW (h:Heap)(I:Addr)(i:Nat)(x:V)(u:Value):Prop:=match x with
 | .rng n=>IsRangeIter h I ((0:Int)+(i:Nat) * 1) (((n.toNat:Nat):Int) - (i:Nat)) 1
 | .tup _=>∃a,u=.ref a∧a≠I∧h.IsTupleIter I a i
 | _=>∃a,u=.ref a∧a≠I∧h.IsListIter I a i
section
variable {X X' O:Addr→Prop}{w:World}{h h' hZ:Heap}{μ μ':List Loc}{F:Addr→Prop}{A:Around}{sc:Scope}{env:Env}{ρ:LE}{E:Value→Shared→Prop}{s:Shared}{Y Y':H}{n m i:Nat}{I:Addr}{x y z v:V}{u:Value}{xs:List V}{Q:Value→Shared→Prop}
theorem Sta.ownK (S:Sta X w hZ h μ Y){a:Addr}(hx:X a)(hk:∀b o,b≠a→h.get? b=some o→h'.get? b=some o)(hz:∃o,h'.get? a=some o):Sta X w hZ h' μ Y:=by
 have K:Kept h μ (Fz X μ Y) h' μ (Fz X μ Y):=⟨List.prefix_refl _,λb o e f=>⟨hk b o (λq=>f.2 (q▸hx)) e,f⟩⟩;have ex:∀b,(∃o,h.get? b=some o)→∃o,h'.get? b=some o:=λb ⟨o,e⟩=>by
  by_cases q1:b=a
  ·rw[q1];exact hz
  ·exact⟨o,hk b o q1 e⟩
 refine⟨S.len,λn l o e1 e2=>?_,S.apart,λb o e=>hk b o (λq=>?_) (S.base b o e),S.low,λn l e=>⟨(S.off n l e).1,(S.off n l e).2.1,ex _ (S.off n l e).2.2.1,ex _ (S.off n l e).2.2.2⟩,λb x=>⟨(S.frames b x).1,ex _ (S.frames b x).2⟩,S.offX⟩
 ·have ox:=S.offX n l e1
  exact(S.obj n l o e1 e2).carry K (λx e=>hk _ _ (λq=>ox.1 (by rw[q];exact hx)) e) (λx e=>hk _ _ (λq=>ox.2 (by rw[q];exact hx)) e)
 ·subst q;have:=(S.frames _ hx).1;rw[e]at this;cases this
theorem Sta.dropK (S:Sta X' w hZ h μ Y){a:Addr}(hx:X' a)(hX:∀b,X b→X' b)(hn:¬X a)(hk:∀b o,b≠a→h.get? b=some o→h'.get? b=some o):Sta X w hZ h' μ Y:=by
 have K:Kept h μ (Fz X' μ Y) h' μ (Fz X μ Y):=⟨List.prefix_refl _,λb o e f=>⟨hk b o (λq=>f.2 (q▸hx)) e,f.mono hX⟩⟩;refine⟨S.len,λn l o e1 e2=>?_,S.apart,λb o e=>hk b o (λq=>?_) (S.base b o e),S.low,λn l e=>?_,λb x=>⟨(S.frames b (hX b x)).1,(S.frames b (hX b x)).2.imp λo e=>hk b o (λq=>hn (q▸x)) e⟩,λn l e=>⟨λq=>(S.offX n l e).1 (hX _ q),λq=>(S.offX n l e).2 (hX _ q)⟩⟩
 ·have ox:=S.offX n l e1
  exact(S.obj n l o e1 e2).carry K (λx e=>hk _ _ (λq=>ox.1 (by rw[q];exact hx)) e) (λx e=>hk _ _ (λq=>ox.2 (by rw[q];exact hx)) e)
 ·subst q;have:=(S.frames _ hx).1;rw[e]at this;cases this
 ·have ox:=S.offX n l e
  have oo:=S.off n l e;exact⟨oo.1,oo.2.1,oo.2.2.1.imp λo e=>hk _ _ (λq=>ox.1 (by rw[q];exact hx)) e,oo.2.2.2.imp λo e=>hk _ _ (λq=>ox.2 (by rw[q];exact hx)) e⟩
theorem ay8 {n:Int}(hn:0≤n):(if(0:Int) < n then n - 0 else 0)=((n.toNat:Nat):Int):=by
 split<;>lia
theorem bh4 {n:Int}(h:0≤n∧n < 1000):-9223372036854775808≤n∧n < 9223372036854775808:=⟨Int.le_trans (by decide) h.1,Int.lt_trans h.2 (by decide)⟩
theorem aO3 (S:Sta X w hZ s.heap μ Y)(r:cD w s.heap μ (Fz X μ Y) x u)(e:bU x Y=some (xs,Y'))
  (h:Y=Y'→∀oI,eW (s.heap.push oI) s.heap.objs.size 0 x u→Q (.ref s.heap.objs.size) { s with heap:=s.heap.push oI }):wpAny (model prog w) A (pyIter u) Q E s:=by
 have list:∀{a vs k},s.heap.get? a=some (j9 vs k)→u=.ref a→(∀oI,(∃a',u=.ref a'∧a'≠s.heap.objs.size∧(s.heap.push oI).IsListIter s.heap.objs.size a' 0)→Q (.ref s.heap.objs.size) { s with heap:=s.heap.push oI })→wpAny (model prog w) A (pyIter u) Q E s:=by
  rintro a vs k g rfl h;exact wpAny_pyIter_list (kD g) (h _ ⟨a,rfl,Nat.ne_of_lt (Heap.lt_size g),_,Heap.get?_push_size _ rfl,rfl,rfl⟩)
 obtain⟨es,q0⟩:=x9 e;clear e;rcases q0 with rfl | rfl | ⟨n,rfl,e⟩ | ⟨n,rfl,rfl⟩
 ·obtain⟨a,vs,k,rfl,_,g,rl,_⟩:=r;exact wpAny_pyIter_tuple (items:=vs.toArray) (uW g) (h es _ ⟨a,rfl,Nat.ne_of_lt (Heap.lt_size g),_,Heap.get?_push_size _ rfl,rfl,rfl⟩)
 ·obtain⟨a,vs,k,hu,_,g,rl,_⟩:=r;exact list g hu λoI q=>h es oI q
 ·obtain⟨l,e1,hu⟩:=r;obtain⟨vs,k,g,_,rl,hz⟩:=S.obj _ _ _ e1 e;exact list g hu λoI q=>h es oI q
 ·obtain⟨a,t,t2,t3,rfl,_,hrg,hb⟩:=r;refine wpAny_pyIter_range hrg ?_ (h es _ ?_)
  ·unfold Builtin.Range.small Builtin.Range.rangeFitsLong;rw[rangeSize_one];rw[ay8 hb.1];have q:=bh4 hb;have e0:max n 0=n:=Int.max_eq_left hb.1;simp[e0];exact⟨q,.inr q⟩
  ·show IsRangeIter _ _ _ _ _;rw[rangeSize_one,ay8 hb.1];have e1:(0:Int)+((0:Nat):Int) * 1=0:=by simp
   have e2:((n.toNat:Nat):Int) - ((0:Nat):Int)=n.toNat:=by simp
   rw[e1,e2];exact Heap.get?_push_size _ rfl
theorem aN1 {Q:Option Value→Shared→Prop}(hh:A.handled=none)(S:Sta X w hZ s.heap μ Y)(r:cD w s.heap μ (Fz X μ Y) x u)(it:eW s.heap I i x u)(e:bU x Y=some (xs,Y'))(hi:i≤xs.length)(hI:X I)
  (h1:∀y v h' t',xs[i]?=some y→(∀b o,b≠I→s.heap.get? b=some o→h'.get? b=some o)→(∃o,h'.get? I=some o)→eW h' I (i+1) x u→cD w h' μ (Fz X μ Y) y v→Q (some v) { s with heap:=h',toks:=t' })
  (h2:i=xs.length→∀h' t',(∀b o,b≠I→s.heap.get? b=some o→h'.get? b=some o)→Q none { s with heap:=h',toks:=t' }) :
  wpAny (model prog w) A (pyNext (.ref I)) Q E s:=by
 have kp:∀{h':Heap},(∀b o,b∉[I]→s.heap.get? b=some o→h'.get? b=some o)→∀b o,b≠I→s.heap.get? b=some o→h'.get? b=some o:=λhk b o q=>hk b o (by simpa using q);have rk:∀{h':Heap} {y v},(∀b o,b∉[I]→s.heap.get? b=some o→h'.get? b=some o)→cD w s.heap μ (Fz X μ Y) y v→cD w h' μ (Fz X μ Y) y v:=λhk r=>
  cD.kept ⟨List.prefix_refl _,λb o e f=>⟨kp hk b o (λq=>f.2 (q▸hI)) e,f⟩⟩ _ _ r
 have list:∀{a vs k},s.heap.get? a=some (j9 vs k)→u=.ref a→(∃a',u=.ref a'∧a'≠I∧s.heap.IsListIter I a' i)→bC w s.heap μ (Fz X μ Y) xs vs→
   (∀h',(∃a',u=.ref a'∧a'≠I∧h'.IsListIter I a' (i+1))→eW h' I (i+1) x u)→wpAny (model prog w) A (pyNext (.ref I)) Q E s:=by
  rintro a vs k g rfl ⟨a',ha,hne,li⟩ rl back;cases ha;have hl:=bO rl;have W:=Walks.list (prog:=prog) (w:=w) hh I a hne vs.toArray;by_cases q:i < xs.length
  ·refine W.item i s Q E (by rw[List.size_toArray];lia) ⟨li,kD g⟩ λv h' tk hP hS hk=>?_;obtain⟨y,hy,ry⟩:=r7 rl (k:=i) (v:=v) (by simpa using hP);exact h1 y v h' tk hy (kp hk) (let ⟨o,e,_⟩:=hS.1;⟨o,e⟩) (back h' ⟨a,rfl,hne,hS.1⟩) (rk hk ry)
  ·have hi':i=xs.length:=by lia
   have:i=vs.toArray.size:=by rw[List.size_toArray];lia
   refine W.done s Q E (this▸⟨li,kD g⟩) λh' tk hk=>h2 hi' h' tk (kp hk)
 obtain⟨es,q0⟩:=x9 e;clear e;clear es;rcases q0 with q | q | ⟨n,q,e⟩ | ⟨n,q,q'⟩
 ·clear list;subst q;obtain⟨a,vs,k,rfl,_,g,rl,_⟩:=r;obtain⟨a',ha,hne,ti⟩:=it;cases ha;have hl:=bO rl;have W:=Walks.tuple (prog:=prog) (w:=w) hh I a hne vs.toArray;by_cases q:i < xs.length
  ·refine W.item i s Q E (by rw[List.size_toArray];lia) ⟨ti,uW g⟩ λv h' tk hP hS hk=>?_;obtain⟨y,hy,ry⟩:=r7 rl (k:=i) (v:=v) (by simpa using hP);exact h1 y v h' tk hy (kp hk) (let ⟨o,e,_⟩:=hS.1;⟨o,e⟩) ⟨a,rfl,hne,hS.1⟩ (rk hk ry)
  ·have hi':i=xs.length:=by lia
   have:i=vs.toArray.size:=by rw[List.size_toArray];lia
   refine W.done s Q E (this▸⟨ti,uW g⟩) λh' tk hk=>h2 hi' h' tk (kp hk)
 ·clear h1 h2 rk;subst q;obtain⟨a,vs,k,hu,_,g,rl,_⟩:=r;exact list g hu it rl λh' q=>q
 ·clear h1 h2 rk;subst q;obtain⟨l,e1,hu⟩:=r;obtain⟨vs,k,g,_,rl,hz⟩:=S.obj _ _ _ e1 e;exact list g hu it rl λh' q=>q
 ·clear list;subst q q';have W:=Walks.range (prog:=prog) (w:=w) hh I 0 1 n.toNat;simp only[List.length_map,List.length_range]at hi h2;by_cases q:i < n.toNat
  ·refine W.item i s Q E q it λv h' tk hP hS hk=>?_;obtain⟨t,rfl⟩:=hP;refine h1 (.int i) _ h' tk (by simp[q]) (kp hk) ⟨_,hS⟩ hS ?_;have:(0:Int)+(i:Int) * 1=i:=by lia
   rw[this];exact gU ..
  ·have hi':i=n.toNat:=by lia
   subst hi';exact W.done s Q E it λh' tk hk=>h2 rfl h' tk (kp hk)
end
section
variable {X X' O:Addr→Prop}{w:World}{h h' hZ:Heap}{μ μ':List Loc}{F:Addr→Prop}{A:Around}{sc:Scope}{env:Env}{ρ ρ':LE}{E:Value→Shared→Prop}{s:Shared}{Y Y':H}{n m i:Nat}{I:Addr}{x y z v:V}{u:Value}{xs:List V}{Q:Unit→Shared→Prop}
set_option backward.match.sparseCases true in
theorem am7 {tgt:Expr}{o:Obj}{T:String}{u:Value}(ho:s.heap.get? I=some o)(hc:o.cls=.type T)(hT:(["enumerate","zip","dict_itemiterator","dict_reverseitemiterator","odict_iterator","itertools.zip_longest","itertools.pairwise"].contains T)=false)
  (hQ:Q () s):wpAny (model prog w) A (letOwnedTupleGo tgt (.ref I) u) Q E s:=by
 have go:∀t:Sem Unit,(t=do
   let (.ref r,.ref a):=(Value.ref I,u) | return
   let o ←load r
   match o.cls,o.data with
   | .type n,.fields vs=>
    if["enumerate","zip","dict_itemiterator","dict_reverseitemiterator","odict_iterator","itertools.zip_longest","itertools.pairwise"].contains n&&vs[0]?==some (rawInt a)then
     rule "for.unpacks-the-owned-tuple"
     updateField r 0 .none
   | _,_=>pure ())→wpAny (model prog w) A t Q E s:=by
  rintro _ rfl;cases u<;>try exact zP hQ
  refine zW (wpAny_load ho ?_);rw[hc];cases o.data<;>try exact zP hQ
  dsimp only;rw[if_neg (by rw[hT];simp)];exact zP hQ
 cases tgt<;>first | exact zP hQ | exact go _ rfl
theorem aA3 {tgt:Expr}{u':Value}(it:eW s.heap I i x u)(hQ:Q () s):wpAny (model prog w) A (letOwnedTupleGo tgt (.ref I) u') Q E s:=by
 cases x
 case tup=>
  obtain⟨_,_,_,o,ho,hc,_⟩:=it;exact am7 ho hc (by decide) hQ
 case rng=>
  have it':IsRangeIter _ _ _ _ _:=it;exact am7 it' rfl (by decide) hQ
 all_goals
  obtain⟨_,_,_,o,ho,hc,_⟩:=it;exact am7 ho hc (by decide) hQ
theorem jZ {id:Str}{pos:Pos}(f:FrameAt X O w sc env s.heap μ (Fz X μ Y) ρ)(S:Sta X w hZ s.heap μ Y)(hx:fG sc id=true)(r:cD w s.heap μ (Fz X μ Y) v u)
  (h:∀h' t',Stf X O w hZ s.heap μ Y h' μ Y→FrameAt X O w sc env h' μ (Fz X μ Y) (upd ρ id v)→Q () { s with heap:=h',toks:=t' }) :
  wpAny (model prog w) A (assign (.Name id pos) env u) Q E s:=by
 rw[arm_assign_Name];exact zW (wpAny_standAt (wpAny_bindName (f.store S hx r h)))
theorem bM4 {α:Type}{a:α}(h:none=some a):False:=nomatch h
theorem wL {e:Expr}{es:List Expr}{xs:List Str}(h:iQ (e::es)=some xs):∃id pos xs',e=.Name id pos∧iQ es=some xs'∧xs=id::xs':=by
 refine Fl.opq1 e λP hP=>?_;revert h;cases e<;>first | exact aV | skip
 rename_i id pos;intro h;obtain⟨xs',a,h⟩:=Option.map_eq_some_iff.mp (show(iQ es).map (id::·)=some xs from h);exact hP _ ⟨id,pos,xs',rfl,a,h.symm⟩
theorem aJ1:∀(es:List Expr) (xs:List Str) (vs:List V) (us:List Value) {ρ ρ':LE} {E:Value→Shared→Prop} {s:Shared} {Q:Unit→Shared→Prop},iQ es=some xs→xs.all (fG sc)=true→cZ xs vs ρ=some ρ'→
  FrameAt X O w sc env s.heap μ (Fz X μ Y) ρ→Sta X w hZ s.heap μ Y→bC w s.heap μ (Fz X μ Y) vs us→
  (∀h' t',Stf X O w hZ s.heap μ Y h' μ Y→FrameAt X O w sc env h' μ (Fz X μ Y) ρ'→Q () { s with heap:=h',toks:=t' })→
  wpAny (model prog w) A (assignInOrder ((assignEach es env).map (·.2)) us) Q E s:=by
 intro es
 induction es with
 | nil=>
  intro xs vs us ρ ρ' E s Q hn hl hb f S r h;cases (show some []=some xs from hn);rcases dG hb with⟨_,rfl,rfl⟩ | ⟨_,_,_,_,q,_⟩
  ·subst r;exact wpAny_assignInOrder_none (h _ s.toks (Stf.refl S) f)
  ·cases q
 | cons e es ih=>
  intro xs vs us ρ ρ' E s Q hn hl hb f S r h;obtain⟨id,pos,xs',rfl,hxs,rfl⟩:=wL hn;have hl:=zB hl;have hb0:=dG hb;clear hb;rcases hb0 with⟨q,_⟩ | ⟨_,_,v,vs,q,rfl,hb⟩
  ·cases q
  ·cases q;obtain⟨u,us,rfl,a,b⟩:=r;refine wpAny_assignInOrder_more (jZ f S hl.1 a λh1 t1 st1 f1=>?_);refine ih xs' vs us (s:={ s with heap:=h1,toks:=t1 }) hxs hl.2 hb f1 st1.st (bC.kept (st1.kept f.own) _ _ b) λh2 t2 st2 f2=>?_;exact h _ _ (Stf.trans f.own S st1 st2) f2
theorem aV7 {env:Env}:∀(es:List Expr) (xs:List Str),iQ es=some xs→(assignEach es env).length=xs.length∧(assignEach es env).findIdx? (·.1)=none:=by
 intro ll
 induction ll with
 | nil=>
  intro xs hn;cases (show some []=some xs from hn);exact⟨rfl,rfl⟩
 | cons e es ih=>
  intro xs hn;obtain⟨id,pos,xs',rfl,hxs,rfl⟩:=wL hn;obtain⟨h1,h2⟩:=ih xs' hxs;refine⟨by show(assignEach es env).length+1=_;rw[h1];rfl,?_⟩;show List.findIdx? (·.1) ((false,assign (.Name id pos) env)::assignEach es env)=none;rw[List.findIdx?_cons,h2];rfl
theorem aD3 {sc:Scope}{t:Expr}{v:V}{ρ ρ':LE}(hb:kP sc t v ρ=some ρ'):(∃id pos,t=.Name id pos∧fG sc id=true∧ρ'=upd ρ id v)∨
  ∃es k pos vs xs,t=.Tuple es k pos∧v=.tup vs∧iQ es=some xs∧xs.all (fG sc)=true∧cZ xs vs ρ=some ρ':=by
 refine Fl.opq2 t v λP hP=>?_;revert hb;cases t
 case Name id pos=>
  intro h;replace h:(if fG sc id then some (upd ρ id v)else none)=some ρ':=h;by_cases hx:fG sc id=true
  ·rw[if_pos hx]at h;exact hP _ _ (.inl ⟨id,pos,rfl,hx,(Option.some.inj h).symm⟩)
  ·rw[if_neg hx]at h;exact(bM4 h).elim
 case Tuple es k pos=>
  cases v
  case tup vs=>
   intro hb;obtain⟨xs,hn,h⟩:=zO (show((iQ es).bind λxs=>if xs.all (fG sc)then cZ xs vs ρ else none)=some ρ' from hb);by_cases hl:xs.all (fG sc)=true
   ·rw[if_pos hl]at h;exact hP _ _ (.inr ⟨es,k,pos,vs,xs,rfl,rfl,hn,hl,h⟩)
   ·rw[if_neg hl]at h;exact(bM4 h).elim
  all_goals exact aV
 all_goals exact aV
theorem aq5 {t:Expr}(hh:A.handled=none)(f:FrameAt X O w sc env s.heap μ (Fz X μ Y) ρ)(S:Sta X w hZ s.heap μ Y)(hb:kP sc t v ρ=some ρ')(r:cD w s.heap μ (Fz X μ Y) v u)
  (h:∀h' t',Stf X O w hZ s.heap μ Y h' μ Y→FrameAt X O w sc env h' μ (Fz X μ Y) ρ'→Q () { s with heap:=h',toks:=t' }) :
  wpAny (model prog w) A (assign t env u) Q E s:=by
 rcases aD3 hb with⟨id,pos,rfl,hx,rfl⟩ | ⟨es,k,pos,vs,xs,rfl,rfl,hn,hl,hb⟩
 ·exact jZ f S hx r h
 ·obtain⟨a,us,k,rfl,_,g,rl,_⟩:=r;have h1:=bO rl;have h2:=uI hb;obtain⟨e1,e2⟩:=aV7 (env:=env) es xs hn;refine wpAny_assign_Tuple hh (uW g) (by rw[e1,List.size_toArray];lia) e2 λh' hk=>?_;have st:=Stp.extBut S zR hk;refine aJ1 es xs vs us (s:={ s with heap:=h' }) hn hl hb (f.step S st) st.st (st.repL rl) λh2 t2 st2 f2=>?_;exact h _ _ (Stf.trans f.own S st.toF st2) f2
end
def tF (env:Env):List (Str×NameKind)→List (Str×Addr)→List (Str×Addr)
 | [],acc=>acc
 | (n,k)::r,acc=>if k==.free then tF env r ((n,(env.cells.lookup n).getD 0)::acc)else tF env r acc
theorem aZ3 {env:Env}{f:Str×NameKind→List (Str×Addr)→Sem (ForInStep (List (Str×Addr)))}
  (hf:∀n k acc,f (n,k) acc=if k==.free then(do let c ←cellOf env n;pure (.yield ((n,c)::acc)))else pure (.yield acc)) :
  ∀(names:List (Str×NameKind)) (acc:List (Str×Addr)),(∀p∈names,p.2=.free→∃c,env.cells.lookup p.1=some c)→forIn names acc f=pure (tF env names acc):=by
 intro ll
 induction ll with
 | nil=>
  intro acc _;exact rfl
 | cons p0 r ih=>
  intro acc h;obtain⟨n,k⟩:=p0;rw[List.forIn_cons,hf];show _=pure (if k==.free then tF env r ((n,(env.cells.lookup n).getD 0)::acc)else tF env r acc);replace ih:=λacc=>ih acc λp hp=>h p (zC _ hp);by_cases q:k==.free
  ·rw[if_pos q,if_pos q];obtain⟨c,hc⟩:=h (n,k) zS (by simpa using q);have hc':env.cells.lookup n=some c:=hc;unfold cellOf;rw[hc'];simp only[pure_bind,Option.getD_some];exact ih _
  ·rw[if_neg q,if_neg q];simp only[pure_bind];exact ih _
theorem aZ2 {csc:Scope}{env:Env}(h:∀p∈csc.names,p.2=.free→∃c,env.cells.lookup p.1=some c):closureFor csc env=pure (tF env csc.names []):=by
 simp only[closureFor];rw[aZ3 (env:=env) (λn k acc=>by
  by_cases q:k==.free
  ·simp only[q,if_true]
  ·simp only[q]) csc.names [] h]
 rfl
theorem aR1 {env:Env}{x:Str}:∀(names:List (Str×NameKind)) (acc:List (Str×Addr)),(∀p∈names,p.2=.free→∃c,env.cells.lookup p.1=some c)→(∀c,acc.lookup x=some c→env.cells.lookup x=some c)→
  (∀c,(tF env names acc).lookup x=some c→env.cells.lookup x=some c)∧(((x,NameKind.free)∈names∨(acc.lookup x).isSome=true)→∃c,(tF env names acc).lookup x=some c):=by
 intro ll
 induction ll with
 | nil=>
  intro acc h ha;exact⟨ha,λq=>by
   rcases q with q | q
   ·simp at q
   ·exact Option.isSome_iff_exists.mp q⟩
 | cons p0 r ih=>
  intro acc h ha;obtain⟨n,k⟩:=p0;rw[show tF env ((n,k)::r) acc=if k==.free then tF env r ((n,(env.cells.lookup n).getD 0)::acc)else tF env r acc from rfl];have h':=λp hp=>h p (zC (n,k) hp);by_cases q:k==.free
  ·rw[if_pos q];obtain⟨c,hc⟩:=h (n,k) zS (by simpa using q);have hc':env.cells.lookup n=some c:=hc;have ih2:=ih ((n,(env.cells.lookup n).getD 0)::acc) h' (λc' e=>by
    rw[List.lookup_cons]at e;cases z:x==n with
    | true=>rw[z]at e;cases e;rw[eq_of_beq z,hc'];rfl
    | false=>rw[z]at e;exact ha c' e)
   refine⟨ih2.1,λw=>ih2.2 ?_⟩;rcases w with w | w
   ·rcases List.mem_cons.mp w with w | w
    ·cases w;right;rw[List.lookup_cons,beq_self_eq_true];rfl
    ·exact .inl w
   ·right;rw[List.lookup_cons];split
    ·rfl
    ·exact w
  ·rw[if_neg q];have ih2:=ih acc h' ha;refine⟨ih2.1,λw=>ih2.2 ?_⟩;rcases w with w | w
   ·rcases List.mem_cons.mp w with w | w
    ·cases w;simp at q
    ·exact .inl w
   ·exact .inr w
theorem af4 {env:Env}{x:Str}:∀(names:List (Str×NameKind)),(names.map λ(n,k)=>if(k==NameKind.free&&env.scope.kind==.function&&env.kindOf n==some .cell)then(n,NameKind.cell)else(n,k)).lookup x =
  (names.lookup x).map λk=>if(k==NameKind.free&&env.scope.kind==.function&&env.kindOf x==some .cell)then NameKind.cell else k:=by
 intro ll
 induction ll with
 | nil=>
  exact rfl
 | cons p0 r ih=>
  obtain⟨n,k⟩:=p0;show List.lookup x ((if(k==NameKind.free&&env.scope.kind==.function&&env.kindOf n==some .cell)=true then(n,NameKind.cell)else(n,k))::_)=_;by_cases hc:(k==NameKind.free&&env.scope.kind==.function&&env.kindOf n==some .cell)=true
  ·rw[if_pos hc,List.lookup_cons,List.lookup_cons];cases z:x==n with
   | true=>rw[eq_of_beq z,Option.map_some,if_pos hc]
   | false=>exact ih
  ·rw[if_neg hc,List.lookup_cons,List.lookup_cons];cases z:x==n with
   | true=>rw[eq_of_beq z,Option.map_some,if_neg hc]
   | false=>exact ih
theorem aH3 {csc:Scope}{env:Env}{x:Str}:(relabel csc env).names.lookup x=(csc.names.lookup x).map λk=>if(k==NameKind.free&&env.scope.kind==.function&&env.kindOf x==some .cell)then NameKind.cell else k:=af4 csc.names
section
variable {w:World}{A:Around}{R:Result→Shared→Prop}{s:Shared}
theorem aI4 {elt target iter:Expr}{ifs:List Expr}{scope:Scope}{pos:Pos}{it acc:Value}{env:Env}(I:Nat→Shared→Prop)
  (turn:∀n s,I n s→wpAny (model prog w) A (pyNext it) (λr s₁=>match r with
   | none=>R (.ok .next) s₁
   | some v=>wpAny (model prog w) A (letOwnedTupleGo target it v) (λ_ s₁'=>wpAny (model prog w) A (assign target env v) (λ_ s₂=>
     wpAny (model prog w) A (forIn ifs true λc r=>if r=true then do let ok ←isTrue c env (eval c env);pure (ForInStep.yield ok)else pure (ForInStep.yield r)) (λok s₃=>
      if ok=true then wpAny (model prog w) A (eval elt env) (λx s₄=>
       wpAny (model prog w) A (call (.builtin "list.append") [acc,x]) (λ_ s₅=>∃m,m < n∧I m s₅) (notedBy (model prog w) A env λe s'=>R (.error e) s') s₄) (notedBy (model prog w) A env λe s'=>R (.error e) s') s₃
      else ∃m,m < n∧I m s₃) (notedBy (model prog w) A env λe s'=>R (.error e) s') s₂) (notedBy (model prog w) A env λe s'=>R (.error e) s') s₁') (notedBy (model prog w) A env λe s'=>R (.error e) s') s₁) (notedBy (model prog w) A env λe s'=>R (.error e) s') s)
  (n:Nat) (h:I n s) :
  codeAny (model prog w) A (.compLoop (.ListComp elt [⟨target,iter,ifs,0⟩] scope pos) 0 it acc env) R s:=by
 refine codeAny_loop rfl I (λn s hI=>?_) n h;show wpAny _ A ((compTurn (.ListComp elt [⟨target,iter,ifs,0⟩] scope pos) 0 it acc env).onRaise (λx=>do noteFrame x env;theTreesLotGoes x)) _ _ s;refine wpAny_noted ?_;rw[compTurn_list];refine zW (wpAny_standAt (zW (wpAny_mono (turn n s hI) (λr s₁ h₁=>?_) λ_ _ h'=>h')));cases r with
 | none=>exact zP h₁
 | some v=>
  refine zW (wpAny_mono h₁ (λ_ s₁' h₁'=>?_) λ_ _ h'=>h');refine zW (wpAny_mono h₁' (λ_ s₂ h₂=>zW (wpAny_mono h₂ (λok s₃ h₃=>?_) λ_ _ h'=>h')) λ_ _ h'=>h');cases ok with
  | false=>exact zP ⟨rfl,h₃⟩
  | true=>
   exact zW (zW (wpAny_mono h₃ (λx s₄ h₄=>zW (wpAny_mono h₄ (λ_ s₅ h₅=>zP (zP ⟨rfl,h₅⟩)) λ_ _ h'=>h')) λ_ _ h'=>h'))
end
section
variable {X X' O:Addr→Prop}{w:World}{h h' hZ:Heap}{μ μ':List Loc}{F:Addr→Prop}{A:Around}{sc:Scope}{env:Env}{ρ ρ':LE}{E:Value→Shared→Prop}{s:Shared}{Y Y':H}{n m i:Nat}{I a:Addr}{x y z v:V}{u:Value}{xs:List V}
theorem Kept.dropK (hx:X' a)(hX:∀b,X b→X' b)(hk:∀b o,b≠a→h.get? b=some o→h'.get? b=some o):Kept h μ (Fz X' μ Y) h' μ (Fz X μ Y):=
 ⟨List.prefix_refl _,λb o e f=>⟨hk b o (λq=>f.2 (q▸hx)) e,f.mono hX⟩⟩
theorem fS {wt:Option Nat}{Y₀ Y₁:H}{u0:Unit}(e0:bU x Y₀=some (xs,Y₁))(e:still xs (aP x) Y=some (u0,Y')):Y'=Y∧bU x Y=some (xs,Y):=by
 rcases(x9 e0).2 with rfl | rfl | ⟨n,rfl,_⟩ | ⟨n,rfl,rfl⟩
 ·exact⟨(aM.mp e).2.symm,rfl⟩
 ·exact⟨(aM.mp e).2.symm,rfl⟩
 ·obtain⟨ys,_,h1,h2⟩:=aG.mp (show(aB (rdL n) λys=>dD (decide (xs=ys))) Y=_ from e);obtain⟨h3,rfl⟩:=gW.mp h1;obtain⟨q,rfl⟩:=aY.mp h2;exact⟨rfl,gW.mpr ⟨zD q▸h3,rfl⟩⟩
 ·exact⟨(aM.mp e).2.symm,rfl⟩
theorem u3 {wch:M Unit}{f:V→M (Option V)}{y:V}{r zs:List V}(e:bK wch f (y::r) Y=some (zs,Y')) :
  ∃u0 Y₁ z Y₂ zs',wch Y=some (u0,Y₁)∧f y Y₁=some (z,Y₂)∧bK wch f r Y₂=some (zs',Y')∧zs=wZ z zs':=by
 have e':(aB wch λ_=>aB (f y) λz=>aB (bK wch f r) λys=>ret (wZ z ys)) Y=some (zs,Y'):=e;replace e':=aG.mp e';obtain⟨u0,Y₁,h1,e'⟩:=e';replace e':=aG.mp e';obtain⟨z,Y₂,h2,e'⟩:=e';replace e':=aG.mp e';obtain⟨zs',Y₃,h3,e'⟩:=e';replace e':=aM.mp e';obtain⟨rfl,rfl⟩:=e';exact⟨u0,Y₁,z,Y₂,zs',h1,h2,h3,rfl⟩
theorem yO {wch:M Unit}{f:V→M (Option V)}{zs:List V}(e:bK wch f [] Y=some (zs,Y')):∃u0,wch Y=some (u0,Y')∧zs=[]:=by
 have e':(aB wch λ_=>ret []) Y=some (zs,Y'):=e;replace e':=aG.mp e';obtain⟨u0,Y₁,h1,e'⟩:=e';replace e':=aM.mp e';obtain⟨rfl,rfl⟩:=e';exact⟨u0,h1,rfl⟩
theorem bn3 {wch:M Unit}{f:V→M (Option V)}:∀{l zs:List V} {Y Y':H},bK wch f l Y=some (zs,Y')→zs.length≤l.length:=by
 intro ll
 induction ll with
 | nil=>
  intro zs Y Y' e;obtain⟨_,_,rfl⟩:=yO e;simp
 | cons y r ih=>
  intro zs Y Y' e;obtain⟨_,_,z,_,zs',_,_,h3,rfl⟩:=u3 e;have:=ih h3;cases z<;>simp[wZ]<;>lia
theorem FrameAt.keepAll (f:FrameAt X O w sc env h μ F ρ){h':Heap}{μ':List Loc}{F':Addr→Prop}(K:Kept h μ F h' μ' F')(hk:∀b,(b=env.locals∨∃y,env.cells.lookup y=some b)→∀o,h.get? b=some o→h'.get? b=some o) :
  FrameAt X O w sc env h' μ' F' ρ:=by
 refine⟨f.ok,f.kind,f.loc,f.cel,f.fre,f.glo,f.globals,f.builtins,f.own,f.ownL,λy hy=>?_,f.inX,f.apart,f.apartL,?_,λy v hy e=>?_⟩
 ·obtain⟨c,v,e1,e2,o,e3,e4⟩:=f.ownC y hy;exact⟨c,v,e1,e2,o,hk _ (.inr ⟨y,e1⟩) _ e3,e4⟩
 ·obtain⟨m,hn,hm⟩:=f.ns;obtain⟨o,es,ep,ho,hd⟩:=hn;refine⟨m,⟨o,es,ep,hk _ (.inl rfl) _ ho,hd⟩,λy v hy e=>?_⟩;obtain⟨u,hu,r⟩:=hm y v hy e;exact⟨u,hu,cD.kept K _ _ r⟩
 ·obtain⟨c,u,e1,⟨o,e2,e3⟩,r⟩:=f.cells y v hy e;exact⟨c,u,e1,⟨o,hk _ (.inr ⟨y,e1⟩) _ e2,e3⟩,cD.kept K _ _ r⟩
theorem FrameAt.weak (f:FrameAt X O w sc env h μ F ρ')(hw:∀y v,ρ y=some v→ρ' y=some v):FrameAt X O w sc env h μ F ρ:=by
 refine⟨f.ok,f.kind,f.loc,f.cel,f.fre,f.glo,f.globals,f.builtins,f.own,f.ownL,f.ownC,f.inX,f.apart,f.apartL,?_,λy v hy e=>f.cells y v hy (hw y v e)⟩;obtain⟨m,hn,hm⟩:=f.ns;exact⟨m,hn,λy v hy e=>hm y v hy (hw y v e)⟩
theorem ba1 {q:Str}{t:Expr}(hq:fG sc q=false)(e:kP sc t v ρ=some ρ'):ρ' q=ρ q:=by
 rcases aD3 e with⟨id,pos,rfl,hx,rfl⟩ | ⟨es,k,pos,vs,xs,rfl,rfl,hn,hl,e⟩
 ·unfold upd;rw[if_neg];rintro rfl;rw[hx]at hq;cases hq
 ·refine rT (λhm=>?_) e;have:=zA hl q hm;rw[hq]at this;cases this
theorem eW.kept {h h':Heap}(it:eW h I i x u)(hk:∀o,h.get? I=some o→h'.get? I=some o):eW h' I i x u:=by
 cases x
 case rng=>exact hk _ it
 all_goals
  obtain⟨a,e,ne,o,ho,hd⟩:=it;exact⟨a,e,ne,o,hk _ ho,hd⟩
def w3 (csc:Scope)(tgt:Expr)(ρ₀:LE)(tst:LE→M Bool)(el:LE→M V)(y:V):M (Option V):=aB (bL (kP csc tgt y ρ₀)) λρ'=>aB (tst ρ') λb=>if b then aB (el ρ') λz=>ret (some z)else ret none
theorem bn1 {csc:Scope}{cenv:Env}{tgt iter elt:Expr}{ifs:List Expr}{scp:Scope}{pos:Pos}{tst:LE→M Bool}{el:LE→M V}{ρ₀:LE}{D C:Addr}{R:Result→Shared→Prop}{Y₀ Y₁:H}
  (hh:A.handled=none) (e0:bU x Y₀=some (xs,Y₁)) (hI:X I) (hD:X D) (hC:cenv.locals=C) (hID:I≠D) (hIC:I≠C) (hDC:D≠C) (hcI:∀y c,cenv.cells.lookup y=some c→c≠I∧c≠D) (hm:∀y,fG csc y=true→ρ₀ y=none) (hz:xs.length≤200000)
  (htt:∀ρ',PcB w hZ X (λb=>b=C) A csc cenv ρ' (tst ρ') (forIn ifs true λc r=>if r=true then do let ok ←isTrue c cenv (eval c cenv);pure (ForInStep.yield ok)else pure (ForInStep.yield r)))
  (he:∀ρ',Pc w hZ X (λb=>b=C) A csc cenv ρ' (el ρ') (eval elt cenv)) :
  ∀(k:Nat) {i:Nat} {s:Shared} {μ:List Loc} {Y Y':H} {ys zs:List V} {vs:List Value} {ep:Nat} {u:Value},k=xs.length - i→i≤xs.length→ys.length≤i→
   Sta X w hZ s.heap μ Y→FrameAt X (λb=>b=C) w csc cenv s.heap μ (Fz X μ Y) ρ₀→s.heap.get? D=some (j9 vs ep)→bC w s.heap μ (Fz X μ Y) ys vs→eW s.heap I i x u→cD w s.heap μ (Fz X μ Y) x u→
   bK (still xs (aP x)) (w3 csc tgt ρ₀ tst el) (xs.drop i) Y=some (zs,Y')→
   (∀(h:Heap) (t:Tok) (μ':List Loc) (h2:Heap) (t2:Tok) (vs':List Value) (ep':Nat),Stf X (λb=>b=I∨b=D∨b=C) w hZ s.heap μ Y h μ' Y'→(∃m,h.Ns C m)→h.get? D=some (j9 vs' ep')→bC w h μ' (Fz X μ' Y') (ys++zs) vs'→(∀b o,b≠I→h.get? b=some o→h2.get? b=some o)→R (.ok .next) { s with heap:=h2,toks:=t2 })→
   codeAny (model prog w) A (.compLoop (.ListComp elt [⟨tgt,iter,ifs,0⟩] scp pos) 0 (.ref I) (.ref D) cenv) R s:=by
 intro k i s μ Y Y' ys zs vs ep u hk hi hys S f gD ry it ru e done;have hO:∀b,(b=I∨b=D∨b=C)→X b:=by
  rintro b (rfl | rfl | rfl)
  ·exact hI
  ·exact hD
  ·exact hC▸f.own _ f.ownL
 refine Fl.opqJ (λ(k:Nat) (s':Shared)=>∃i h t μ₁ Y₁ ys₁ zs₁ vs₁ ep₁,s'={ s with heap:=h,toks:=t }∧k=xs.length - i∧i≤xs.length∧ys₁.length≤i∧Stf X (λb=>b=I∨b=D∨b=C) w hZ s.heap μ Y h μ₁ Y₁∧
  FrameAt X (λb=>b=C) w csc cenv h μ₁ (Fz X μ₁ Y₁) ρ₀∧h.get? D=some (j9 vs₁ ep₁)∧bC w h μ₁ (Fz X μ₁ Y₁) ys₁ vs₁∧eW h I i x u∧cD w h μ₁ (Fz X μ₁ Y₁) x u∧
  bK (still xs (aP x)) (w3 csc tgt ρ₀ tst el) (xs.drop i) Y₁=some (zs₁,Y')∧ys₁++zs₁=ys++zs) λJ jin jout=>?_
 refine aI4 J (λk s' hJ=>?_) k (jin ?_);rotate_left
 ·refine⟨i,?_⟩;exact⟨s.heap,s.toks,μ,Y,ys,zs,vs,ep,rfl,hk,hi,hys,Stf.refl S,f,gD,ry,it,ru,e,rfl⟩
 obtain⟨i,h,t,μ₁,Y₁,ys₁,zs₁,vs₁,ep₁,rfl,hk,hi,hys,st,f,gD,ry,it,ru,e,hsum⟩:=jout hJ;have S:=st.st;have stl:bU x Y₁=some (xs,Y₁):=by
  cases q:xs.drop i with
  | nil=>rw[q]at e;obtain⟨_,e1,_⟩:=yO e;exact(fS (wt:=none) e0 e1).2
  | cons y r=>rw[q]at e;obtain⟨_,_,_,_,_,e1,_⟩:=u3 e;exact(fS (wt:=none) e0 e1).2
 refine aN1 (s:={ s with heap:=h,toks:=t }) hh S ru it stl hi hI (λy v h1 t1 hy hk1 hz1 it1 rv=>?_) λhlen h1 t1 hk1=>?_
 ·
  have hlt:i < xs.length:=(zG hy).1;have hdrop:xs.drop i=y::xs.drop (i+1):=by
   rw[List.drop_eq_getElem_cons hlt];congr 1;exact(zG hy).2
  rw[hdrop]at e;obtain⟨_,_,zo,Y₂,zs₂,ew,ef,er,rfl⟩:=u3 e;obtain⟨es,_⟩:=fS (wt:=none) e0 ew;rw[es]at ef;unfold w3 at ef;replace ef:=aG.mp ef;obtain⟨ρ',Yb,z0,ef⟩:=ef;replace z0:=bB.mp z0;obtain⟨hb,hYb⟩:=z0;replace ef:=aG.mp ef;obtain⟨b,Y₃,etst,eel⟩:=ef;rw[←hYb]at etst;have K1:Kept h μ₁ (Fz X μ₁ Y₁) h1 μ₁ (Fz X μ₁ Y₁):=⟨List.prefix_refl _,λb o e f=>⟨hk1 b o (λq=>f.2 (q▸hI)) e,f⟩⟩;have S1:Sta X w hZ h1 μ₁ Y₁:=S.ownK hI hk1 hz1;have st1:Stf X (λb=>b=I∨b=D∨b=C) w hZ h μ₁ Y₁ h1 μ₁ Y₁:=⟨List.prefix_refl _,S1,λb o e _ q=>hk1 b o (λz=>q (.inl z)) e,λb q=>.inl q⟩;have f1:FrameAt X (λb=>b=C) w csc cenv h1 μ₁ (Fz X μ₁ Y₁) ρ₀:=f.keepAll K1 λb q o e=>hk1 b o (by
   rcases q with q | ⟨y,q⟩
   ·rw[q,hC];exact Ne.symm hIC
   ·exact(hcI y b q).1) e
  have gD1:=hk1 _ _ (Ne.symm hID) gD;refine aA3 (s:={ s with heap:=h1,toks:=t1 }) it1 (aq5 (s:={ s with heap:=h1,toks:=t1 }) hh f1 S1 hb rv λh2 t2 st2 f2=>?_);have it2:eW h2 I (i+1) x u:=it1.kept λo e=>st2.keep _ o e (S1.notWr hI) hIC;have gD2:=st2.keep _ _ gD1 (S1.notWr hD) hDC;have sub:∀b,b=C→(b=I∨b=D∨b=C):=λb q=>.inr (.inr q);have st2':Stf X (λb=>b=I∨b=D∨b=C) w hZ h1 μ₁ Y₁ h2 μ₁ Y₁:=⟨st2.pre,st2.st,λb o e q z=>st2.keep b o e q (λq'=>z (sub b q')),st2.wr⟩;refine htt ρ' _ { s with heap:=h2,toks:=t2 } μ₁ Y₁ Y₃ b _ st2.st f2 etst λh3 t3 μ3 st3=>?_;have it3:eW h3 I (i+1) x u:=it2.kept λo e=>st3.keep _ o e (st2.st.notWr hI);have gD3:=st3.keep _ _ gD2 (st2.st.notWr hD);have f3:=f2.step st2.st st3;have upto3:Stf X (λb=>b=I∨b=D∨b=C) w hZ s.heap μ Y h3 μ3 Y₃:=Stf.trans hO ‹Sta X w hZ s.heap μ Y› st (Stf.trans hO S st1 (Stf.trans hO S1 st2' st3.toF));have back:∀y v,ρ₀ y=some v→ρ' y=some v:=λy v e=>by
   have:fG csc y=false:=by
    cases q:fG csc y with
    | false=>rfl
    | true=>rw[hm y q]at e;cases e
   rw[ba1 this hb];exact e
  have r3:∀{l:List V} {us:List Value},bC w h μ₁ (Fz X μ₁ Y₁) l us→bC w h3 μ3 (Fz X μ3 Y₃) l us:=λr=>st3.repL (bC.kept (st2.kept f1.own) _ _ (bC.kept K1 _ _ r));have rx3:cD w h3 μ3 (Fz X μ3 Y₃) x u:=st3.rep (cD.kept (st2.kept f1.own) _ _ (cD.kept K1 _ _ ru));cases b
  ·clear done htt he hcI etst;obtain⟨rfl,rfl⟩:=aM.mp (show ret (none:Option V) Y₃=some (zo,Y₂)from eel);refine⟨xs.length - (i+1),by rw[hk];exact Nat.sub_lt_sub_left hlt (Nat.lt_succ_self i),jin ?_⟩;refine⟨i+1,?_⟩;exact⟨h3,t3,μ3,Y₃,ys₁,zs₂,vs₁,ep₁,rfl,rfl,hlt,Nat.le_succ_of_le hys,upto3,f3.weak back,gD3,r3 ry,it3,rx3,er,hsum⟩
  ·simp only[if_true,aG,aM]at eel ⊢;obtain⟨z,Y₄,eel,rfl,rfl⟩:=eel;refine he ρ' _ { s with heap:=h3,toks:=t3 } μ3 Y₃ Y₄ z _ st3.st f3 eel λvz h4 t4 μ4 st4 rz=>?_;have it4:eW h4 I (i+1) x u:=it3.kept λo e=>st4.keep _ o e (st3.st.notWr hI);have gD4:=st4.keep _ _ gD3 (st3.st.notWr hD);have f4:=f3.step st3.st st4;have r4:=st4.repL (r3 ry);have lys:=bO r4;refine call_meets PySem.F.slot_list_append ⟨_,gD4,rfl⟩ PySem.F.entry_list_append (PySem.F.args_list_append_2 _ _) (list_append D vs₁.toArray ep₁ vz (by rw[List.size_toArray,aZ];lia)) ⟨gD4,?_⟩;obtain⟨ep5,g5⟩:=an9 (f:=λxs=>xs.push vz) (us:=vs₁++[vz]) gD4 (by simp);have sb:Heap.SameBut D h4 (h4.update D (Obj.mapSeq λxs=>xs.push vz)):=Heap.SameBut.update ..;have S5:=st4.st.own hD sb ⟨_,g5⟩;have st5:Stf X (λb=>b=I∨b=D∨b=C) w hZ h4 μ4 Y₄ (h4.update D (Obj.mapSeq λxs=>xs.push vz)) μ4 Y₄:=Stf.own st4.st (.inr (.inl rfl)) hO sb ⟨_,g5⟩;have K5:=st5.kept hO;refine⟨xs.length - (i+1),by rw[hk];exact Nat.sub_lt_sub_left hlt (Nat.lt_succ_self i),jin ?_⟩;refine⟨i+1,?_⟩;refine⟨_,t4,μ4,Y₄,ys₁++[z],zs₂,vs₁++[vz],ep5,rfl,rfl,hlt,by simp;lia,Stf.trans hO ‹Sta X w hZ s.heap μ Y› upto3 (Stf.trans hO st3.st st4.toF st5),?_,g5,?_,it4.kept λo e=>(sb.2 I hID).trans e,cD.kept K5 _ _ (st4.rep rx3),er,?_⟩
   ·refine(f4.keepAll K5 λb q o e=>(sb.2 b ?_).trans e).weak back;rcases q with q | ⟨y,q⟩
    ·rw[q,hC];exact Ne.symm hDC
    ·exact(hcI y b q).2
   ·exact eX (bC.kept K5 _ _ r4) (by exact bC.cons (cD.kept K5 _ _ rz) (rfl))
   ·rw[←hsum];simp[wZ]
 ·
  rw[List.drop_of_length_le (by lia)]at e;obtain⟨_,ew,rfl⟩:=yO e;obtain⟨es,_⟩:=fS (wt:=none) e0 ew;subst es;obtain⟨m,hn,_⟩:=f.ns;rw[hC]at hn;exact done h t μ₁ h1 t1 vs₁ ep₁ st ⟨m,hn⟩ gD (by rw[←hsum,List.append_nil];exact ry) hk1
end
section
variable {X X' O:Addr→Prop}{w:World}{h h' hZ:Heap}{μ μ':List Loc}{F:Addr→Prop}{A:Around}{sc:Scope}{env:Env}{ρ ρ':LE}{E:Value→Shared→Prop}{s:Shared}{Y Y':H}{n m i:Nat}{I a:Addr}{x y z v:V}{u:Value}{xs:List V}
theorem br4 {Q:Value→Shared→Prop}(it:eW s.heap I i x u)(hQ:Q (.ref I) s):wpAny (model prog w) A (pyIter (.ref I)) Q E s:=by
 cases x
 case rng=>
  have it':IsRangeIter _ _ _ _ _:=it;exact wpAny_pyIter_rangeiter it' hQ
 case tup=>
  obtain⟨a,_,_,it'⟩:=it;exact wpAny_pyIter_tupleiter it' hQ
 all_goals
  obtain⟨a,_,_,it'⟩:=it;exact wpAny_pyIter_listiter it' hQ
theorem eW.ex {h:Heap}(it:eW h I i x u):∃o,h.get? I=some o:=by
 cases x
 case rng=>exact⟨_,it⟩
 all_goals
  obtain⟨_,_,_,o,ho,_⟩:=it;exact⟨o,ho⟩
theorem bt3 {x:V}{xs:List V}{Y Y':H}(e:c8 x Y=some (xs,Y')):bU x Y=some (xs,Y'):=by
 revert e;cases x<;>first | exact id | exact aV
theorem uF {csc:Scope}{tgt iter elt:Expr}{ifs:List Expr}{pos:Pos}{mi:M V}{tst:LE→M Bool}{el:LE→M V}(hh:A.handled=none)
  (hi:Pc w hZ X O A sc env ρ mi (eval iter env)) (hset:∀x,foldedSetIterable iter env x=pure x)
  (htt:∀X' O' cenv ρ',PcB w hZ X' O' A csc cenv ρ' (tst ρ') (forIn ifs true λc r=>if r=true then do let ok ←isTrue c cenv (eval c cenv);pure (ForInStep.yield ok)else pure (ForInStep.yield r)))
  (he:∀X' O' cenv ρ',Pc w hZ X' O' A csc cenv ρ' (el ρ') (eval elt cenv)) :
  ∀(use:Option (Value→Sem Unit)) (E:Value→Shared→Prop) (s:Shared) (μ:List Loc) (Y Y₃:H) (itv:V) (Y₁:H) (xs:List V) (Y₂:H) (ys:List V) (Q:Value→Shared→Prop),Sta X w hZ s.heap μ Y→FrameAt X O w sc env s.heap μ (Fz X μ Y) ρ→okC sc csc=true→
   mi Y=some (itv,Y₁)→c8 itv Y₁=some (xs,Y₂)→bK (still xs (aP itv)) (w3 csc tgt (pI csc ρ) tst el) xs Y₂=some (ys,Y₃)→
   (∀(C D:Addr) (h5:Heap) (t5:Tok) (μ4:List Loc),¬X C→s.heap.get? C=none→Stp X w hZ s.heap μ Y h5 μ4 Y₃→Sta (λb=>X b∨b=C) w hZ h5 μ4 Y₃→(∃m,h5.Ns C m)→cD w h5 μ4 (Fz (λb=>X b∨b=C) μ4 Y₃) (.lst ys) (.ref D)→
    compPost (model prog w) A E use Q (.ref D) C (.ok .next) { s with heap:=h5,toks:=t5 })→
   wpAny (model prog w) A (comprehension (.ListComp elt [⟨tgt,iter,ifs,0⟩] csc pos) csc env (firstIterPos [⟨tgt,iter,ifs,0⟩] pos) (newList []) (firstAsync [⟨tgt,iter,ifs,0⟩]) (firstIter [⟨tgt,iter,ifs,0⟩] env) use) Q E s:=by
 intro use E s μ Y Y₃ itv Y₁ xs Y₂ ys Q S f ok e1 e2 e3 post;have okc:=ok;unfold okC at okc;simp only[Bool.and_eq_true,List.all_eq_true,Bool.or_eq_true,bne_iff_ne,beq_iff_eq]at okc;obtain⟨okS,okN⟩:=okc;have okS':=okS;unfold aG2 at okS';simp only[Bool.and_eq_true,beq_iff_eq,Bool.not_eq_true']at okS';obtain⟨⟨⟨hkind,_⟩,hco⟩,hgen⟩:=okS';have freeC:∀p∈csc.names,p.2=.free→sc.names.lookup p.1=some .cell:=λp hp q=>by
  rcases(okN p hp).2 with z | z
  ·exact absurd q z
  ·exact z
 have freeL:∀p∈csc.names,p.2=.free→∃c,env.cells.lookup p.1=some c:=λp hp q=>by
  obtain⟨c,_,hc,_⟩:=f.ownC p.1 (freeC p hp q);exact⟨c,hc⟩
 have localL:∀p∈csc.names,p.2=.local→csc.names.lookup p.1=some .local:=λp hp q=>by
  rcases(okN p hp).1.2 with z | z
  ·exact absurd q z
  ·exact z
 have noCell:∀p∈csc.names,p.2≠.cell:=λp hp=>(okN p hp).1.1;refine wpAny_comprehension_free (g:=⟨tgt,iter,ifs,0⟩) (gs:=[]) rfl hset (aZ2 freeL) hkind localL ?_;show wpAny _ _ (eval iter env) _ _ _;refine hi _ _ _ _ _ _ _ S f e1 λui h1 t1 μ1 st1 ri=>?_;have f1:=f.step S st1;have e2':bU itv Y₁=some (xs,Y₂):=by
  exact bt3 e2
 have hz:xs.length≤200000:=(br3 (s:={ s with heap:=h1,toks:=t1 }) st1.st ri e2).2.1;refine aO3 (s:={ s with heap:=h1,toks:=t1 }) st1.st ri e2' λes oI it=>?_;subst es;refine wpAny_newList ?_
 let I:Addr:=h1.objs.size
 let hA:=h1.push oI
 let D:Addr:=hA.objs.size
 let hB:=hA.push (j9 [] 0)
 let C:Addr:=hB.objs.size
 have szA:hA.objs.size=h1.objs.size+1:=Heap.size_push ..;have szB:hB.objs.size=h1.objs.size+2:=by show(hA.push _).objs.size=_;rw[Heap.size_push,szA]
 have hID:I≠D:=by show h1.objs.size≠hA.objs.size;rw[szA];exact Nat.ne_of_lt (Nat.lt_succ_self _)
 have hIC:I≠C:=by show h1.objs.size≠hB.objs.size;rw[szB];exact Nat.ne_of_lt (by lia)
 have hDC:D≠C:=by show hA.objs.size≠hB.objs.size;rw[szA,szB];exact Nat.ne_of_lt (by lia)
 refine wpAny_newFunctionEnv noCell (λx hx=>by simp at hx) (λhC hns sb=>?_) hkind;have kAB:∀b o,h1.get? b=some o→hB.get? b=some o:=λb o e=>Heap.get?_push_of_some _ (Heap.get?_push_of_some _ e);have keepC:∀b o,hB.get? b=some o→hC.get? b=some o:=λb o e=>(sb.2 b (Nat.ne_of_lt (Heap.lt_size e))).trans (Heap.get?_push_of_some _ e);have keep:∀b o,h1.get? b=some o→hC.get? b=some o:=λb o e=>keepC b o (kAB b o e);have gI:∃o,hC.get? I=some o:=it.ex.imp λo e=>keepC _ _ (Heap.get?_push_of_some _ e);have gD:hC.get? D=some (j9 [] 0):=keepC _ _ (Heap.get?_push_size _ rfl);have nI:h1.get? I=none:=zN;have nD:h1.get? D=none:=Heap.get?_none_of_le (by show h1.objs.size≤hA.objs.size;lia);have nC:h1.get? C=none:=Heap.get?_none_of_le (by show h1.objs.size≤hB.objs.size;lia);have gC:∃o,hC.get? C=some o:=let ⟨o,_,_,e,_⟩:=hns;⟨o,e⟩
 have noX:∀b,h1.get? b=none→¬X b:=λb q z=>by obtain⟨o,e⟩:=(st1.st.frames b z).2;rw[q]at e;cases e
 let X':Addr→Prop:=λb=>X b∨b=I∨b=D∨b=C
 have hX':∀b,X' b→X b∨(h1.get? b=none∧∃o,hC.get? b=some o):=by
  rintro b (q | rfl | rfl | rfl)
  ·exact .inl q
  ·exact .inr ⟨nI,gI⟩
  ·exact .inr ⟨nD,_,gD⟩
  ·exact .inr ⟨nC,gC⟩
 have S':Sta X' w hZ hC μ1 Y₁:=st1.st.frame keep (λb q=>.inl q) hX';have Kf:=Kept.frame (X':=X') st1.st keep hX';have it':eW hC I 0 itv ui:=it.kept λo e=>keepC _ _ (Heap.get?_push_of_some _ e);have cl:=λy=>aR1 (env:=env) (x:=y) csc.names [] freeL (λc e=>by simp at e);have cellX:∀y c,(tF env csc.names []).lookup y=some c→X c:=λy c q=>f1.inX y c ((cl y).1 c q);have cellOff:∀y c,(tF env csc.names []).lookup y=some c→∃o,h1.get? c=some o:=λy c q=>(st1.st.frames c (cellX y c q)).2;have neq:∀{c b:Addr},(∃o,h1.get? c=some o)→h1.get? b=none→c≠b:=λ⟨o,e⟩ g q=>by rw[q,g]at e;cases e
 have FR:FrameAt X' (λb=>b=C) w csc { newEnv csc C env.globals (tF env csc.names []) env.qual none .none (some env) builtinsNs with scope:=relabel csc env } hC μ1 (Fz X' μ1 Y₁) (pI csc ρ):=by
  have kd:∀y,Env.kindOf { newEnv csc C env.globals (tF env csc.names []) env.qual none .none (some env) builtinsNs with scope:=relabel csc env } y=(csc.names.lookup y).map λk=>if(k==NameKind.free&&env.scope.kind==.function&&env.kindOf y==some .cell)then NameKind.cell else k:=λy=>aH3;refine⟨okS,hkind,λy q=>?_,λy q=>?_,λy q=>?_,λy q=>?_,f1.globals,f1.builtins,?_,rfl,λy q=>?_,λy c q=>.inl (cellX y c q),λy z c q _ _=>?_,λy c q=>neq (cellOff y c q) nC,⟨_,hns,λy v q e=>?_⟩,λy v q e=>?_⟩
  ·rw[kd,q];rfl
  ·exact absurd rfl (noCell _ (cQ q))
  ·rw[kd,q];simp only[Option.map_some];split
   ·exact .inl rfl
   ·exact .inr rfl
  ·rw[kd,q];rfl
  ·rintro b rfl;exact .inr (.inr (.inr rfl))
  ·exact absurd rfl (noCell _ (cQ q))
  ·exact absurd rfl (noCell _ (cQ q))
  ·unfold pI fG at e;rw[q]at e;simp at e
  ·rcases q with q | q
   ·exact absurd rfl (noCell _ (cQ q))
   ·have e':ρ y=some v:=by
     unfold pI fG at e;rw[q]at e
     simpa using e
    have qs:=freeC (y,.free) (cQ q) rfl;obtain⟨c,u,c1,⟨o,c2,c3⟩,r⟩:=f1.cells y v (.inl qs) e';obtain⟨c',hc'⟩:=(cl y).2 (.inl (cQ q));have:c'=c:=by have:=(cl y).1 c' hc';rw[c1]at this;exact(Option.some.inj this).symm
    subst this;exact⟨c',u,hc',⟨o,keep _ _ c2,c3⟩,cD.kept Kf _ _ r⟩
 have main:codeAny (model prog w) A (.compLoop (.ListComp elt [⟨tgt,iter,ifs,0⟩] csc pos) 0 (.ref I) (.ref D) { newEnv csc C env.globals (tF env csc.names []) env.qual none .none (some env) builtinsNs with scope:=relabel csc env })
   (compPost (model prog w) A E use Q (.ref D) C) { s with heap:=hC,toks:=t1 }:=by
  refine bn1 (X:=X') (I:=I) (D:=D) (C:=C) (x:=itv) (xs:=xs) (tst:=tst) (el:=el) (ρ₀:=pI csc ρ) hh e2' (.inr (.inl rfl)) (.inr (.inr (.inl rfl))) rfl hID hIC hDC (λy c q=>⟨neq (cellOff y c q) nI,neq (cellOff y c q) nD⟩)
   (λy q=>by unfold pI;rw[if_pos q]) hz (htt _ _ _) (he _ _ _) xs.length (i:=0) (s:={ s with heap:=hC,toks:=t1 }) (ys:=[]) (vs:=[]) (ep:=0) (u:=ui) (zs:=ys) (by lia) (Nat.zero_le _) (Nat.zero_le _) S' FR gD (rfl) it' (cD.kept Kf _ _ ri) (by rw[List.drop_zero];exact e3) ?_
  intro h4 t4 μ4 h5 t5 vs4 ep4 st4 hn4 gD4 rl4 hk5;obtain⟨m4,o4,es4,epn4,ho4,hr4⟩:=hn4
  let X2:Addr→Prop:=λb=>X b∨b=D∨b=C
  have i2:∀b,X2 b→X' b:=λb q=>q.elim .inl λq=>.inr (.inr q);have i3:∀b,(X b∨b=C)→X2 b:=λb q=>q.elim .inl λq=>.inr (.inr q);have n2:¬X2 I:=by
   rintro(q | q | q)
   ·exact noX I nI q
   ·exact hID q
   ·exact hIC q
  have S2:Sta X2 w hZ h5 μ4 Y₃:=st4.st.dropK (a:=I) (.inr (.inl rfl)) i2 n2 hk5;have SC:Sta (λb=>X b∨b=C) w hZ h5 μ4 Y₃:=S2.less i3;have S4:Sta X w hZ h5 μ4 Y₃:=SC.less λb q=>.inl q;have K2:Kept h4 μ4 (Fz X' μ4 Y₃) h5 μ4 (Fz X2 μ4 Y₃):=Kept.dropK (a:=I) (.inr (.inl rfl)) i2 hk5;have K3:Kept h5 μ4 (Fz X2 μ4 Y₃) h5 μ4 (Fz (λb=>X b∨b=C) μ4 Y₃):=Kept.less i3;have stAll:Stp X w hZ h1 μ1 Y₁ h5 μ4 Y₃:=by
   refine⟨st4.pre,S4,λb o e q=>?_,λb q=>?_⟩
   ·have ne:∀{b':Addr},h1.get? b'=none→b≠b':=λg z=>by rw[z,g]at e;cases e
    have e4:=st4.keep b o (keep b o e) q (by
     rintro(z | z | z)
     ·exact ne nI z
     ·exact ne nD z
     ·exact ne nC z)
    exact hk5 b o (ne nI) e4
   ·refine(st4.wr b q).imp id λz=>?_;cases e':h1.get? b with
    | none=>rfl
    | some o=>rw[keep b o e']at z;cases z
  have nC0:s.heap.get? C=none∨Wr μ Y C:=by
   cases e':s.heap.get? C with
   | none=>exact .inl rfl
   | some o=>
    by_cases q:Wr μ Y C
    ·exact .inr q
    ·have:=st1.keep C o e' q;rw[nC]at this;cases this
  have nC1:s.heap.get? C=none:=by
   rcases nC0 with q | q
   ·exact q
   ·obtain⟨n,l,o,e1,_,_,z⟩:=q;have:=st1.st.off n l (fZ st1.pre e1);rcases z with z | z
    ·obtain⟨o',e'⟩:=this.2.2.1;rw[←z,nC]at e';cases e'
    ·obtain⟨o',e'⟩:=this.2.2.2;rw[←z,nC]at e';cases e'
  refine post C D h5 t5 μ4 (noX C nC) nC1 (st1.trans stAll) SC ⟨m4,o4,es4,epn4,hk5 _ _ (Ne.symm hIC) ho4,hr4⟩ ?_;show ∃_,_;refine⟨D,vs4,ep4,rfl,⟨S2.notWr (.inr (.inl rfl)),λq=>q.elim (noX D nD) hDC⟩,hk5 _ _ (Ne.symm hID) gD4,?_,by have:=bn3 e3;lia⟩;exact bC.kept K3 _ _ (bC.kept K2 _ _ (by simpa using rl4))
 refine codeAny_compStart_list main (br4 (s:={ s with heap:=hC,toks:=t1 }) it' main)
theorem aH0 {csc:Scope}{tgt iter elt:Expr}{ifs:List Expr}{pos:Pos}{mi:M V}{tst:LE→M Bool}{el:LE→M V}(hh:A.handled=none)
  (hi:Pc w hZ X O A sc env ρ mi (eval iter env)) (hset:∀x,foldedSetIterable iter env x=pure x)
  (htt:∀X' O' cenv ρ',PcB w hZ X' O' A csc cenv ρ' (tst ρ') (forIn ifs true λc r=>if r=true then do let ok ←isTrue c cenv (eval c cenv);pure (ForInStep.yield ok)else pure (ForInStep.yield r)))
  (he:∀X' O' cenv ρ',Pc w hZ X' O' A csc cenv ρ' (el ρ') (eval elt cenv)) :
  Pc w hZ X O A sc env ρ (aB (dD (okC sc csc)) λ_=>aB mi λit=>aB (c8 it) λxs=>aB (bK (still xs (aP it)) (w3 csc tgt (pI csc ρ) tst el) xs) λys=>ret (.lst ys))
   (eval (.ListComp elt [⟨tgt,iter,ifs,0⟩] csc pos) env):=by
 intro E s μ Y Y' x Q S f e h;replace e:=aG.mp e;obtain⟨_,_,z0,e⟩:=e;replace z0:=aY.mp z0;obtain⟨ok,rfl⟩:=z0;replace e:=aG.mp e;obtain⟨itv,Y₁,e1,e⟩:=e;replace e:=aG.mp e;obtain⟨xs,Y₂,e2,e⟩:=e;replace e:=aG.mp e;obtain⟨ys,Y₃,e3,e⟩:=e;replace e:=aM.mp e;obtain⟨rfl,rfl⟩:=e;rw[arm_eval_ListComp];refine uF hh hi hset htt he none E s μ Y _ itv Y₁ xs Y₂ ys Q S f ok e1 e2 e3 λC D h5 t5 μ4 nXC nC st SC hn r=>⟨hn.choose,hn.choose_spec,λh6 sb6=>?_⟩;have k6:∀b o,b≠C→h5.get? b=some o→h6.get? b=some o:=λb o q e=>(sb6.2 b q).trans e;have S6:Sta X w hZ h6 μ4 Y₃:=SC.dropK (a:=C) (.inr rfl) (λb q=>.inl q) nXC k6;have K6:Kept h5 μ4 (Fz (λb=>X b∨b=C) μ4 Y₃) h6 μ4 (Fz X μ4 Y₃):=Kept.dropK (a:=C) (.inr rfl) (λb q=>.inl q) k6;refine h _ h6 t5 μ4 ⟨st.pre,S6,λb o e q=>k6 b o (λz=>by rw[z,nC]at e;cases e) (st.keep b o e q),st.wr⟩ (cD.kept K6 _ _ r)
end
section
variable {call:CT}{sc:Scope}{ρ:LE}
theorem ao8 {elt tgt iter csc p}:ev call (.ListComp elt [⟨tgt,iter,[],0⟩] csc p) sc ρ =
  aB (dD (okC sc csc)) λ_=>aB (ev call iter sc ρ) λit=>aB (c8 it) λxs=>aB (bK (still xs (aP it)) (w3 csc tgt (pI csc ρ) (λ_=>ret true) (λρ'=>ev call elt csc ρ')) xs) λys=>ret (.lst ys):=rfl
theorem ao7 {elt tgt iter c csc p}:ev call (.ListComp elt [⟨tgt,iter,[c],0⟩] csc p) sc ρ =
  aB (dD (okC sc csc)) λ_=>aB (ev call iter sc ρ) λit=>aB (c8 it) λxs=>aB (bK (still xs (aP it)) (w3 csc tgt (pI csc ρ) (λρ'=>zV call c csc ρ' (ev call c csc ρ')) (λρ'=>ev call elt csc ρ')) xs) λys=>ret (.lst ys):=rfl
theorem aQ2 {elt tgt iter ifs k csc p}(h:k≠0):ev call (.ListComp elt [⟨tgt,iter,ifs,k⟩] csc p) sc ρ=fail:=by
 rcases k with(_ | m) | m
 ·exact absurd rfl h
 ·rcases ifs with _ | ⟨c,_ | ⟨_,_⟩⟩<;>rfl
 ·rcases ifs with _ | ⟨c,_ | ⟨_,_⟩⟩<;>rfl
theorem u2 {elt tgt iter c c2 r k csc p}:ev call (.ListComp elt [⟨tgt,iter,c::c2::r,k⟩] csc p) sc ρ=fail:=rfl
theorem ao6 {elt csc p}:ev call (.ListComp elt [] csc p) sc ρ=fail:=rfl
theorem zU {elt g g2 r csc p}:ev call (.ListComp elt (g::g2::r) csc p) sc ρ=fail:=by
 rcases g with⟨tgt,iter,ifs,k⟩;rcases k with(_ | m) | m<;>rcases ifs with _ | ⟨c,_ | ⟨_,_⟩⟩<;>rfl
theorem aY1 {op vs p wh}:zV call (.BoolOp op vs p) sc ρ wh=bx8 call op vs sc ρ:=rfl
end
section
variable {w:World}{hZ:Heap}{K:Frag}{call:CT}{n:Nat}
theorem Pc.fail {X O:Addr→Prop}{A:Around}{sc:Scope}{env:Env}{ρ:LE}{t:Sem Value}:Pc w hZ X O A sc env ρ fail t:=λ_ _ _ _ _ _ _ _ _ e _=>aV e
theorem Pc.ite {X O:Addr→Prop}{A:Around}{sc:Scope}{env:Env}{ρ:LE}{t:Sem Value}{c:Prop} [Decidable c] {m:M V}(h:c→Pc w hZ X O A sc env ρ m t):Pc w hZ X O A sc env ρ (if c then m else Mine.Internal.fail) t:=by
 by_cases q:c
 ·rw[if_pos q];exact h q
 ·rw[if_neg q];exact Pc.fail
def fQ (w:World)(hZ:Heap)(call:CT)(n:Nat)(e:Expr):Prop:=∀X O A sc env ρ,AOk n A→Pc w hZ X O A sc env ρ (ev call e sc ρ) (eval e env)
def aT0 (w:World)(hZ:Heap)(call:CT)(n:Nat)(e:Expr):Prop:=∀X O A sc env ρ whole,AOk n A→whole=eval e env→PcB w hZ X O A sc env ρ (zV call e sc ρ (ev call e sc ρ)) (isTrue e env whole)
theorem qN {X O:Addr→Prop}{A:Around}{sc:Scope}{env:Env}{ρ:LE}(hA:AOk n A):∀(es:List Expr),(∀e∈es,fQ w hZ call n e)→Pcs w hZ X O A sc env ρ (kG call es sc ρ) (evalEach es env):=by
 intro ll
 induction ll with
 | nil=>
  intro _;exact .nil
 | cons e es ih=>
  intro h;exact .cons (h e zS _ _ _ _ _ _ hA) (ih λe' he=>h e' (zC _ he))
theorem ad3 {sc:Scope}{ρ:LE}:∀(es:List Expr),(kG call es sc ρ).length=es.length
 | []=>rfl
 | _::es=>by show(kG call es sc ρ).length+1=_;rw[ad3 es];rfl
theorem af1 {iter:Expr}{env:Env}(h:∀ks k p,iter≠.Set ks k p):∀x,foldedSetIterable iter env x=pure x:=by
 intro x;cases iter<;>first | rfl | exact absurd rfl (h _ _ _)
theorem bT1 {sc:Scope}{ρ:LE}{ks k p}:ev call (.Set ks k p) sc ρ=fail:=rfl
theorem aI3 {elt iter tgt:Expr}{ifs:List Expr}{csc:Scope}{pos:Pos}{tst:LE→M Bool}{X O:Addr→Prop}{A:Around}{sc:Scope}{env:Env}{ρ:LE}(hA:AOk n A)(hi:fQ w hZ call n iter)(he:fQ w hZ call n elt)
  (ht:∀X' O' cenv ρ',PcB w hZ X' O' A csc cenv ρ' (tst ρ') (forIn ifs true λc r=>if r=true then do let ok ←isTrue c cenv (eval c cenv);pure (ForInStep.yield ok)else pure (ForInStep.yield r))) :
  Pc w hZ X O A sc env ρ (aB (dD (okC sc csc)) λ_=>aB (ev call iter sc ρ) λit=>aB (c8 it) λxs=>aB (bK (still xs (aP it)) (w3 csc tgt (pI csc ρ) tst (λρ'=>ev call elt csc ρ')) xs) λys=>ret (.lst ys))
   (eval (.ListComp elt [⟨tgt,iter,ifs,0⟩] csc pos) env):=by
 by_cases q:∀ks k p,iter≠.Set ks k p
 ·exact aH0 hA.handled (hi _ _ _ _ _ _ hA) (af1 q) ht λX' O' cenv ρ'=>he _ _ _ _ _ _ hA
 ·have:∃ks k p,iter=.Set ks k p:=by
   cases iter<;>first | exact⟨_,_,_,rfl⟩ | exact absurd (λ_ _ _=>by simp) q
  obtain⟨ks,k,p,rfl⟩:=this;intro E s μ Y Y' x Q S f e h;simp only[aG,bT1]at e;obtain⟨_,_,_,_,_,e,_⟩:=e;exact aV e
theorem lJ {e:Expr}(h:fQ w hZ call n e)(h1:∀sc ρ wh,zV call e sc ρ wh=aB wh aS)(h2:∀env whole,isTrue e env whole=(do let v ←whole;standAt e.pos;holding [v] (truthy v))):aT0 w hZ call n e:=
 λX O A sc env ρ whole hA hw=>by rw[h1,hw];exact aU0 (h _ _ _ _ _ _ hA) (h2 _ _)
theorem bn6 (call:CT)(f:Expr):(∃x q,f=.Name x q)∨(∃o x q,f=.Attribute o x q)∨(∀as ks p sc ρ,ev call (.Call f as ks p) sc ρ=fail):=by
 cases f<;>first | exact .inl ⟨_,_,rfl⟩ | exact .inr (.inl ⟨_,_,_,rfl⟩) | exact .inr (.inr λ_ ks _ _ _=>by cases ks<;>rfl)
theorem bJ9 (call:CT)(f:Expr):∀as k ks p sc ρ,ev call (.Call f as (k::ks) p) sc ρ=fail:=by
 cases f<;>exact λ_ _ _ _ _ _=>rfl
set_option maxHeartbeats 4000000 in
theorem bx7 (WO:WOk w hZ K)(OF:l7 call)(FO:p8 w hZ n call):∀(N:Nat) (e:Expr),sizeOf e < N→fQ w hZ call n e∧aT0 w hZ call n e:=by
 intro N
 induction N with
 | zero=>exact λe h=>absurd h (Nat.not_lt_zero _)
 | succ N ih=>
  intro e;have mem:∀{es:List Expr},sizeOf es < N→∀e∈es,fQ w hZ call n e:=λhs e he=>(ih e (Nat.lt_trans (List.sizeOf_lt_of_mem he) hs)).1;have units:∀{A:Around},AOk n A→A.units+22 < cLine:=λhA=>by have:=hA.units;lia
  cases e
  case Constant c k p=>
   intro hN;have h:fQ w hZ call n (.Constant c k p):=λX O A sc env ρ hA=>bn0;exact⟨h,lJ h (λ_ _ _=>rfl) λ_ _=>rfl⟩
  case Name x p=>
   intro hN;have h:fQ w hZ call n (.Name x p):=λX O A sc env ρ hA=>bt8 WO.glob;exact⟨h,lJ h (λ_ _ _=>rfl) λ_ _=>rfl⟩
  case BoolOp op vs p=>
   intro hN;have hs:sizeOf vs < N:=by simp at hN;exact(z3 hN).2.1
   refine⟨λX O A sc env ρ hA=>aZ9 (qN hA vs (mem hs)),λX O A sc env ρ whole hA hw=>?_⟩;rw[aY1];have go:∀(vs:List Expr) (whole:Sem Value),sizeOf vs < N→PcB w hZ X O A sc env ρ (bx8 call op vs sc ρ) (isTrue (.BoolOp op vs p) env whole):=by
    intro vs
    induction vs with
    | nil=>intro wh _;exact bq8
    | cons e r ih2=>
     intro wh hs;simp at hs;exact bh2 ((ih e (zb hs).1).2 _ _ _ _ _ _ _ hA rfl) (ih2 wh (zb hs).2)
   exact go vs whole hs
  case BinOp l op r p=>
   intro hN;simp at hN;have h:fQ w hZ call n (.BinOp l op r p):=λX O A sc env ρ hA=>bo1 ((ih l (z4 hN).1).1 _ _ _ _ _ _ hA) ((ih r (z4 hN).2.2.1).1 _ _ _ _ _ _ hA);exact⟨h,lJ h (λ_ _ _=>rfl) λ_ _=>rfl⟩
  case UnaryOp op x p=>
   intro hN;simp at hN;cases op
   case Not=>
    exact⟨λX O A sc env ρ hA=>bG0 ((ih x (z3 hN).2.1).1 _ _ _ _ _ _ hA),λX O A sc env ρ whole hA hw=>bq7 ((ih x (z3 hN).2.1).2 _ _ _ _ _ _ _ hA rfl)⟩
   case USub=>
    have h:fQ w hZ call n (.UnaryOp .USub x p):=λX O A sc env ρ hA=>bG4 ((ih x (z3 hN).2.1).1 _ _ _ _ _ _ hA);exact⟨h,lJ h (λ_ _ _=>rfl) λ_ _=>rfl⟩
   all_goals
    refine⟨λX O A sc env ρ hA=>Pc.fail,λX O A sc env ρ whole hA hw=>?_⟩;intro E s μ Y Y' x Q S f e h;exact(oH.mp (aG.mp e).choose_spec.choose_spec.1).elim
  case IfExp t b o p=>
   intro hN;simp at hN;refine⟨λX O A sc env ρ hA=>bl4 ((ih t (z4 hN).1).2 _ _ _ _ _ _ _ hA rfl) ((ih b (z4 hN).2.1).1 _ _ _ _ _ _ hA) ((ih o (z4 hN).2.2.1).1 _ _ _ _ _ _ hA),λX O A sc env ρ whole hA hw=>?_⟩;exact bE2 ((ih t (z4 hN).1).2 _ _ _ _ _ _ _ hA rfl) ((ih b (z4 hN).2.1).2 _ _ _ _ _ _ _ hA rfl) ((ih o (z4 hN).2.2.1).2 _ _ _ _ _ _ _ hA rfl)
  case Compare l ops rs p=>
   intro hN;simp at hN;refine⟨λX O A sc env ρ hA=>aR0 (units hA) ((ih l (z4 hN).1).1 _ _ _ _ _ _ hA) (qN hA rs (mem (z4 hN).2.2.1)),λX O A sc env ρ whole hA hw=>?_⟩;exact aE1 (units hA) ((ih l (z4 hN).1).1 _ _ _ _ _ _ hA) (qN hA rs (mem (z4 hN).2.2.1))
  case List es p=>
   intro hN;simp at hN;have h:fQ w hZ call n (.List es p):=λX O A sc env ρ hA=>by
    refine Pc.ite λhz=>?_;intro E s μ Y Y' x Q S f e h;obtain⟨vs,Y₁,e1,_⟩:=aG.mp e;exact bu4 (qN hA es (mem (z2 hN).1)) (xI es e1) (by rw[ad3];exact hz) E s μ Y Y' x Q S f e h
   exact⟨h,lJ h (λ_ _ _=>rfl) λ_ _=>rfl⟩
  case Tuple es k p=>
   intro hN;simp at hN;have h:fQ w hZ call n (.Tuple es k p):=λX O A sc env ρ hA=>by
    refine Pc.ite λhz=>?_;intro E s μ Y Y' x Q S f e h;obtain⟨vs,Y₁,e1,_⟩:=aG.mp e;exact bg7 (qN hA es (mem (z3 hN).1)) (xI es e1) (by rw[ad3];exact hz) E s μ Y Y' x Q S f e h
   exact⟨h,lJ h (λ_ _ _=>rfl) λ_ _=>rfl⟩
  case Attribute o x p=>
   intro hN;simp at hN;have h:fQ w hZ call n (.Attribute o x p):=λX O A sc env ρ hA=>bo2 WO ((ih o (z3 hN).1).1 _ _ _ _ _ _ hA);exact⟨h,lJ h (λ_ _ _=>rfl) λ_ _=>rfl⟩
  case Dict ks vs p=>
   intro hN;have h:fQ w hZ call n (.Dict ks vs p):=λX O A sc env ρ hA=>by
    cases ks with
    | nil=>
     cases vs with
     | nil=>exact zZ
     | cons v vs=>
      intro E s μ Y Y' x Q S f e h;obtain⟨_,_,e1,_⟩:=aG.mp (show(aB (fU (rQ call [] sc ρ) (kG call (v::vs) sc ρ)) _) Y=_ from e);exact((oH (α:=List (V×V))).mp e1).elim
    | cons k ks=>
     simp at hN;refine ap1 (by have:=hA.units;lia) (by simp) (λX' O' e he=>?_) (λX' O' e he=>?_)
     ·have:sizeOf (some e) < sizeOf (k::ks):=List.sizeOf_lt_of_mem he
      simp at this;exact(ih e (Nat.lt_trans (Nat.lt_of_le_of_lt (Nat.le_add_left _ 1) this) (z3 hN).1)).1 _ _ _ _ _ _ hA
     ·exact mem (es:=vs) (z3 hN).2.1 e he _ _ _ _ _ _ hA
   exact⟨h,lJ h (λ_ _ _=>rfl) λ_ _=>rfl⟩
  case Call f as ks p=>
   intro hN;have h:fQ w hZ call n (.Call f as ks p):=λX O A sc env ρ hA=>by
    simp at hN;cases ks with
    | cons k ks=>rw[bJ9];exact Pc.fail
    | nil=>
     rcases bn6 call f with⟨x,q,rfl⟩ | ⟨o,x,q,rfl⟩ | hf
     ·exact aI5 WO OF FO hA ((ih (.Name x q) (z4 hN).1).1 _ _ _ _ _ _ hA) (qN hA as (mem (z4 hN).2.1)) rfl
     ·simp at hN;exact aI6 WO OF FO hA ((ih o (za (z4 hN).1)).1 _ _ _ _ _ _ hA) (qN hA as (mem (z4 hN).2.1)) rfl
     ·rw[hf];exact Pc.fail
   exact⟨h,lJ h (λ_ _ _=>rfl) λ_ _=>rfl⟩
  case Subscript o i p=>
   intro hN;have h:fQ w hZ call n (.Subscript o i p):=λX O A sc env ρ hA=>by
    simp at hN;have ho:=(ih o (z3 hN).1).1 X O A sc env ρ hA;have hi:=(ih i (z3 hN).2.1).1 X O A sc env ρ hA;cases i
    case Name=>exact gK (units hA) ho hi λ_ _=>rfl
    case Constant=>exact gK (units hA) ho hi λ_ _=>rfl
    case UnaryOp=>exact gK (units hA) ho hi λ_ _=>rfl
    case BinOp=>exact gK (units hA) ho hi λ_ _=>rfl
    case Subscript=>exact gK (units hA) ho hi λ_ _=>rfl
    case Slice lo up st q=>
     simp at hN;cases lo with
     | none=>
      cases up with
      | none=>exact Pc.fail
      | some up=>
       cases st with
       | none=>
        simp at hN;exact bO9 ho ((ih up (by lia)).1 _ _ _ _ _ _ hA)
       | some _=>exact Pc.fail
     | some lo=>
      cases up with
      | some _=>exact Pc.fail
      | none=>
       cases st with
       | none=>
        simp at hN;exact bw9 ho ((ih lo (by lia)).1 _ _ _ _ _ _ hA)
       | some _=>exact Pc.fail
    all_goals exact Pc.fail
   exact⟨h,lJ h (λ_ _ _=>rfl) λ_ _=>rfl⟩
  case ListComp elt gens csc p=>
   intro hN;have h:fQ w hZ call n (.ListComp elt gens csc p):=λX O A sc env ρ hA=>by
    simp at hN;rcases gens with _ | ⟨⟨tgt,iter,ifs,k⟩,_ | ⟨g2,r⟩⟩
    ·rw[ao6];exact Pc.fail
    ·by_cases hk:k=0
     ·subst hk;rcases ifs with _ | ⟨c,_ | ⟨c2,r⟩⟩
      ·simp at hN;rw[ao8];refine aI3 hA (ih iter (by lia)).1 (ih elt (by lia)).1 λX' O' cenv ρ'=>?_;intro E s μ Y Y' b Q S f e h;obtain⟨rfl,rfl⟩:=aM.mp e;exact wpAny_tests_nil (h _ s.toks _ (Stp.same S))
      ·simp at hN;rw[ao7];refine aI3 hA (ih iter (by lia)).1 (ih elt (by lia)).1 λX' O' cenv ρ'=>?_;intro E s μ Y Y' b Q S f e h;exact wpAny_tests_one ((ih c (by lia)).2 _ _ _ _ _ _ _ hA rfl _ _ _ _ _ _ _ S f e h)
      ·rw[u2];exact Pc.fail
     ·rw[aQ2 hk];exact Pc.fail
    ·rw[zU];exact Pc.fail
   exact⟨h,lJ h (λ_ _ _=>rfl) λ_ _=>rfl⟩
  all_goals
   intro hN;refine⟨λX O A sc env ρ hA=>Pc.fail,λX O A sc env ρ whole hA hw=>?_⟩;intro E s μ Y Y' x Q S f e h;exact(oH.mp (aG.mp e).choose_spec.choose_spec.1).elim
end
section
variable {X O:Addr→Prop}{w:World}{h h' hZ:Heap}{K:Frag}{call:CT}{n:Nat}{μ μ':List Loc}{A:Around}{sc:Scope}{env:Env}{ρ:LE}{E:Value→Shared→Prop}{s:Shared}{Y Y':H}{x y z v:V}{u:Value}
theorem c0.fail {t:Env→Sem Flow}:c0 w hZ n (λ_ _=>fail) t:=λ_ _ _ _ _ _ _ _ _ _ _ _ _ _ _ e _=>aV e
theorem bx9 (WO:WOk w hZ K)(OF:l7 call)(FO:p8 w hZ n call)(e:Expr):fQ w hZ call n e:=(bx7 WO OF FO _ e (Nat.lt_succ_self _)).1
theorem bM9 (WO:WOk w hZ K)(OF:l7 call)(FO:p8 w hZ n call)(e:Expr):aT0 w hZ call n e:=(bx7 WO OF FO _ e (Nat.lt_succ_self _)).2
theorem bG2:c0 w hZ n (λsc ρ=>uH call [] sc ρ) (λenv=>execs [] env):=by
 intro X O A sc env s μ Y Y' ρ p Q hA S f e h;obtain⟨rfl,rfl⟩:=aM.mp e;exact wpAny_execs_nil (h _ _ s.toks _ (Stf.refl S) f .next)
theorem bz4 {st:Stmt}{rest:List Stmt}(h1:c0 w hZ n (λsc ρ=>ex call st sc ρ) (λenv=>exec st env))(h2:c0 w hZ n (λsc ρ=>uH call rest sc ρ) (λenv=>execs rest env)) :
  c0 w hZ n (λsc ρ=>uH call (st::rest) sc ρ) (λenv=>execs (st::rest) env):=by
 intro X O A sc env s μ Y Y' ρ p Q hA S f e h;have e':(aB (ex call st sc ρ) (am0 (λρ'=>uH call rest sc ρ'))) Y=some (p,Y'):=e;replace e':=aG.mp e';obtain⟨⟨fl,ρ1⟩,Y₁,e1,e2⟩:=e';refine wpAny_execs_cons (h1 X O A sc env s μ Y Y₁ ρ _ _ hA S f e1 λfl' h' t' μ' st1 f1 r1=>?_);cases r1 with
 | next=>
  exact h2 X O A sc env { s with heap:=h',toks:=t' } μ' Y₁ Y' ρ1 p Q hA st1.st f1 e2 λfl h'' t'' μ'' st2 f2 r2=>h _ _ _ _ (Stf.trans f.own S st1 st2) f2 r2
 | @ret v u r=>
  obtain⟨rfl,rfl⟩:=aM.mp (show ret (Fl.ret v,ρ1) Y₁=some (p,Y')from e2);exact h _ _ _ _ st1 f1 (.ret r)
theorem bt7 (f:FrameAt X O w sc env h μ F ρ):interactive env=false:=by
 unfold interactive;rw[f.kind];rfl
theorem bx4 {f:Expr}{as:List Expr}{ks:List Keyword}{q p:Pos}(he:fQ w hZ call n (.Call f as ks q)) :
  c0 w hZ n (λsc ρ=>ex call (.Expr (.Call f as ks q) p) sc ρ) (λenv=>exec (.Expr (.Call f as ks q) p) env):=by
 intro X O A sc env s μ Y Y' ρ p Q hA S f e h;have e':(aB (ev call (.Call _ as ks q) sc ρ) λ_=>ret (Fl.next,ρ)) Y=some (p,Y'):=e;replace e':=aG.mp e';obtain⟨v,Y₁,e1,e'⟩:=e';replace e':=aM.mp e';obtain⟨rfl,rfl⟩:=e';exact wpAny_Expr_any (he X O A sc env ρ hA _ _ _ _ _ _ _ S f e1 λu h1 t1 μ1 st1 _=>h _ _ _ _ st1.toF (f.step S st1) .next) (bt7 f) rfl
theorem bE7 {e:Expr}{p:Pos}(he:fQ w hZ call n e):c0 w hZ n (λsc ρ=>ex call (.Return (some e) p) sc ρ) (λenv=>exec (.Return (some e) p) env):=by
 intro X O A sc env s μ Y Y' ρ p Q hA S f e h;have e':(aB (ev call _ sc ρ) λv=>aB (aA v) λv=>ret (Fl.ret v,ρ)) Y=some (p,Y'):=e;replace e':=aG.mp e';obtain⟨v,Y₁,e1,e'⟩:=e';replace e':=aG.mp e';obtain⟨v',Y₂,e2,e'⟩:=e';replace e':=aM.mp e';obtain⟨rfl,rfl⟩:=e';refine wpAny_Return_some (he X O A sc env ρ hA _ _ _ _ _ _ _ S f e1 λu h1 t1 μ1 st1 r1=>?_);obtain⟨st2,r2⟩:=ao3 st1.st r1 e2;exact h _ _ _ _ (st1.trans st2).toF (f.step S (st1.trans st2)) (.ret r2)
theorem bt1 {p:Pos}:c0 w hZ n (λsc ρ=>ex call (.Pass p) sc ρ) (λenv=>exec (.Pass p) env):=by
 intro X O A sc env s μ Y Y' ρ p Q hA S f e h;obtain⟨rfl,rfl⟩:=aM.mp (show ret (Fl.next,ρ) Y=some (p,Y')from e);exact wpAny_Pass (h _ _ s.toks _ (Stf.refl S) f .next)
theorem bR6 {t:Expr}{b o:List Stmt}{p:Pos}(ht:aT0 w hZ call n t)(hb:c0 w hZ n (λsc ρ=>uH call b sc ρ) (λenv=>execs b env))(ho:c0 w hZ n (λsc ρ=>uH call o sc ρ) (λenv=>execs o env)) :
  c0 w hZ n (λsc ρ=>ex call (.If t b o p) sc ρ) (λenv=>exec (.If t b o p) env):=by
 intro X O A sc env s μ Y Y' ρ p Q hA S f e h;have e':(aB (zV call t sc ρ (ev call t sc ρ)) λc=>if c then uH call b sc ρ else uH call o sc ρ) Y=some (p,Y'):=e;replace e':=aG.mp e';obtain⟨c,Y₁,e1,e2⟩:=e';refine wpAny_If (ht X O A sc env ρ _ hA rfl _ _ _ _ _ _ _ S f e1 λh1 t1 μ1 st1=>?_);have f1:=f.step S st1;cases c
 ·exact ho X O A sc env { s with heap:=h1,toks:=t1 } μ1 Y₁ Y' ρ p Q hA st1.st f1 e2 λfl h2 t2 μ2 st2 f2 r2=>h _ _ _ _ (Stf.trans f.own S st1.toF st2) f2 r2
 ·exact hb X O A sc env { s with heap:=h1,toks:=t1 } μ1 Y₁ Y' ρ p Q hA st1.st f1 e2 λfl h2 t2 μ2 st2 f2 r2=>h _ _ _ _ (Stf.trans f.own S st1.toF st2) f2 r2
theorem aY6 {o i:Expr}{q p:Pos}(ho:fQ w hZ call n o)(hi:fQ w hZ call n i){m:Scope→LE→M (Fl×LE)}(hm:m=λsc ρ=>aB (ev call o sc ρ) λov=>aB (ev call i sc ρ) λiv=>aB (iW iv ov) λ_=>ret (.next,ρ)) :
  c0 w hZ n m (λenv=>exec (.Delete [.Subscript o i q] p) env):=by
 subst hm;intro X O A sc env s μ Y Y' ρ p Q hA S f e h;replace e:=aG.mp e;obtain⟨ov,Y₁,e1,e⟩:=e;replace e:=aG.mp e;obtain⟨iv,Y₂,e2,e⟩:=e;replace e:=aG.mp e;obtain⟨_,Y₃,e3,e⟩:=e;replace e:=aM.mp e;obtain⟨rfl,rfl⟩:=e;refine wpAny_Delete (wpAny_deleteEach_cons (wpAny_delete_Subscript (ho X O A sc env ρ hA _ _ _ _ _ _ _ S f e1 λuo h1 t1 μ1 st1 ro=>hi X O A sc env ρ hA _ _ _ _ _ _ _ st1.st (f.step S st1) e2 λui h2 t2 μ2 st2 ri=>?_)));refine aI1 (s:={ s with heap:=h2,toks:=t2 }) (by have:=hA.units;lia) st2.st (st2.rep ro) ri e3 λh3 t3 μ3 st3=>wpAny_deleteEach_nil ?_;have stt:=(st1.trans st2).trans st3;exact h _ _ _ _ stt.toF (f.step S stt) .next
theorem bg9:typeLookup (.type "tuple") (dunderI "add")=pure none:=by rw[typeLookup_type,builtinLookup_eq_fast];ext
theorem aT7 {xs ys:List V}{a b:Value}{Q:Value→Shared→Prop}(S:Sta X w hZ s.heap μ Y)(r:cD w s.heap μ (Fz X μ Y) (.tup xs) a)(q:cD w s.heap μ (Fz X μ Y) (.tup ys) b)(hz:xs.length+ys.length≤1000)
  (h:cU X w hZ s μ Y Y (.tup (xs++ys)) Q):wpAny (model prog w) A (PySem.call (.builtin "tuple.__add__") [a,b]) Q E s:=by
 have r0:=r;have q0:=q
 obtain⟨t,vs,n,rfl,f1,g1,l1,z1⟩:=r;obtain⟨t',us,n',rfl,f2,g2,l2,z2⟩:=q;have len1:=bO l1;have len2:=bO l2;by_cases hv:vs=[]
 ·refine call_meets PySem.F.slot_tuple_add ⟨_,g1,rfl⟩ PySem.F.entry_tuple_add (PySem.F.args_tuple_add_2 _ _) (tuple_addW0 t t' vs.toArray us.toArray n n' _ _ _ _ (by simp[hv])) ⟨g1,g2,?_⟩;subst hv;cases xs with
  | nil=>exact h _ _ _ _ (Stp.same S) q0
  | cons _ _=>simp at len1
 ·by_cases hw:us=[]
  ·refine call_meets PySem.F.slot_tuple_add ⟨_,g1,rfl⟩ PySem.F.entry_tuple_add (PySem.F.args_tuple_add_2 _ _) (tuple_addW1 t t' vs.toArray us.toArray n n' _ _ _ _ (by simpa using hv) (by simp[hw])) ⟨g1,g2,?_⟩;subst hw;cases ys with
   | nil=>rw[List.append_nil]at h;exact h _ _ _ _ (Stp.same S) r0
   | cons _ _=>simp at len2
  ·refine call_meets PySem.F.slot_tuple_add ⟨_,g1,rfl⟩ PySem.F.entry_tuple_add (PySem.F.args_tuple_add_2 _ _)
    (tuple_addW2 t t' vs.toArray us.toArray n n' _ _ _ _ (by simpa using hv) (by simpa using hw) (by rw[List.size_toArray,List.size_toArray,aZ];lia)) ⟨g1,g2,?_⟩
   have k:=Stp.tup S (eX l1 l2) (by simp;lia);have e:(vs++us).toArray=vs.toArray++us.toArray:=by simp
   have k1:=k.1;have k2:=k.2
   simp only[p9,e]at k1 k2;exact h _ _ _ _ k1 k2
theorem bB5 {op:Operator}{x y:V}{p:V×H}(e:jH op x y Y=some p):(∃i j,op=.Add∧x=.int i∧y=.int j∧ret (.int (i+j)) Y=some p)∨(∃i j,op=.Sub∧x=.int i∧y=.int j∧ret (.int (i - j)) Y=some p)∨
  ∃a b,op=.Add∧x=.tup a∧y=.tup b∧(if a.length+b.length≤1000 then ret (.tup (a++b))else fail) Y=some p:=by
 refine Fl.opq3 op x y λP hP=>?_;revert e;cases op
 case Add=>
  cases x
  case int i=>cases y<;>first | exact λe=>hP _ _ _ (.inl ⟨_,_,rfl,rfl,rfl,e⟩) | exact aV
  case tup a=>cases y<;>first | exact λe=>hP _ _ _ (.inr (.inr ⟨_,_,rfl,rfl,rfl,e⟩)) | exact aV
  all_goals exact aV
 case Sub=>
  cases x
  case int i=>cases y<;>first | exact λe=>hP _ _ _ (.inr (.inl ⟨_,_,rfl,rfl,rfl,e⟩)) | exact aV
  all_goals exact aV
 all_goals exact aV
theorem bf7 {op:Operator}{x y:V}{a b:Value}{Q:Value→Shared→Prop}(S:Sta X w hZ s.heap μ Y)(r:cD w s.heap μ (Fz X μ Y) x a)(q:cD w s.heap μ (Fz X μ Y) y b)(e:jH op x y Y=some (z,Y'))(h:cU X w hZ s μ Y Y' z Q) :
  wpAny (model prog w) A (inplaceOp op a b) Q E s:=by
 have e1:=bB5 e;clear e;rcases e1 with⟨i,j,rfl,rfl,rfl,e⟩ | ⟨i,j,rfl,rfl,rfl,e⟩ | ⟨xs,ys,rfl,rfl,rfl,e⟩
 ·obtain⟨rfl,rfl⟩:=aM.mp e;obtain⟨t,rfl⟩:=r;obtain⟨t',rfl⟩:=q;exact wpAny_iadd_int (h _ _ _ _ (Stp.same S) (gU ..))
 ·obtain⟨rfl,rfl⟩:=aM.mp e;obtain⟨t,rfl⟩:=r;obtain⟨t',rfl⟩:=q;exact AutoIntOps.isub_0 (h _ _ _ _ (Stp.same S) (gU ..))
 ·split at e
  ·rename_i hz;obtain⟨rfl,rfl⟩:=aM.mp e;have r0:=r;have q0:=q
   obtain⟨t,vs,n,rfl,f1,g1,l1,z1⟩:=r;obtain⟨t',us,n',rfl,f2,g2,l2,z2⟩:=q;exact wpAny_inplaceOp_concat (T:="tuple") ⟨_,g1,rfl⟩ ⟨_,g2,rfl⟩ bg9 noFill_tuple_add seq_tuple_add (aT7 S r0 q0 hz h)
  ·exact aV e
theorem aS1 {id:Str}{q p:Pos}{op:Operator}{e:Expr}(he:fQ w hZ call n e):c0 w hZ n (λsc ρ=>ex call (.AugAssign (.Name id q) op e p) sc ρ) (λenv=>exec (.AugAssign (.Name id q) op e p) env):=by
 intro X O A sc env s μ Y Y' ρ pp Q hA S f ee h;have e':(if fG sc id then aB (bL (ρ id)) λold=>aB (ev call e sc ρ) λv=>aB (jH op old v) λr=>ret (Fl.next,upd ρ id r)else fail) Y=some (pp,Y'):=ee;split at e'
 ·rename_i hx;replace e':=aG.mp e';obtain⟨old,_,z0,e'⟩:=e';replace z0:=bB.mp z0;obtain⟨eo,rfl⟩:=z0;replace e':=aG.mp e';obtain⟨v,Y₁,e1,e'⟩:=e';replace e':=aG.mp e';obtain⟨r,Y₂,e2,e'⟩:=e';replace e':=aM.mp e';obtain⟨rfl,rfl⟩:=e';have ld:∀{Q:Value→Shared→Prop},(∀u,cD w s.heap μ (Fz X μ Y) old u→Q u s)→wpAny (model prog w) A (loadName env id) Q NoE s:=by
   intro Q k;rcases am6 hx with hk | hk
   ·obtain⟨m,hn,hm⟩:=f.ns;obtain⟨u,hu,r⟩:=hm id old hk eo;exact wpAny_loadName_local f.kind (f.loc id hk) hn hu (k u r)
   ·obtain⟨c,u,c1,c2,r⟩:=f.cells id old (.inl hk) eo;exact wpAny_loadName_cell f.kind (f.cel id hk) c1 c2 (k u r)
  refine wpAny_AugAssign_Name (ld λuo ro=>he X O A sc env ρ hA _ _ _ _ _ _ _ S f e1 λuv h1 t1 μ1 st1 rv=>?_);refine bf7 (s:={ s with heap:=h1,toks:=t1 }) st1.st (st1.rep ro) rv e2 λur h2 t2 μ2 st2 rr=>?_;have st:=st1.trans st2;exact(f.step S st).store (s:={ s with heap:=h2,toks:=t2 }) st2.st hx rr λh3 t3 st3 f3=>h _ _ _ _ (Stf.trans f.own S st.toF st3) f3 .next
 ·exact aV e'
theorem aS2 (WO:WOk w hZ K){o:Expr}{x:Str}{q p:Pos}{op:Operator}{e:Expr}(ho:fQ w hZ call n o)(he:fQ w hZ call n e) :
  c0 w hZ n (λsc ρ=>ex call (.AugAssign (.Attribute o x q) op e p) sc ρ) (λenv=>exec (.AugAssign (.Attribute o x q) op e p) env):=by
 intro X O A sc env s μ Y Y' ρ pp Q hA S f ee h;have e':(aB (ev call o sc ρ) λov=>aB (aR x ov) λold=>aB (ev call e sc ρ) λv=>aB (jH op old v) λr=>aB (bH x r ov) λ_=>ret (Fl.next,ρ)) Y=some (pp,Y'):=ee;replace e':=aG.mp e';obtain⟨ov,Y₁,e1,e'⟩:=e';replace e':=aG.mp e';obtain⟨old,Y₂,e2,e'⟩:=e';replace e':=aG.mp e';obtain⟨v,Y₃,e3,e'⟩:=e';replace e':=aG.mp e';obtain⟨r,Y₄,e4,e'⟩:=e';replace e':=aG.mp e';obtain⟨_,Y₅,e5,e'⟩:=e';replace e':=aM.mp e';obtain⟨rfl,rfl⟩:=e';refine wpAny_AugAssign_AttributeAny (ho X O A sc env ρ hA _ _ _ _ _ _ _ S f e1 λuo h1 t1 μ1 st1 ro=>?_);refine aS3 (s:={ s with heap:=h1,toks:=t1 }) WO.kin WO.cls st1.st ro e2 λuold h2 t2 μ2 st2 rold=>?_;have s12:=st1.trans st2;refine he X O A sc env ρ hA _ { s with heap:=h2,toks:=t2 } _ _ _ _ _ st2.st (f.step S s12) e3 λuv h3 t3 μ3 st3 rv=>?_;refine bf7 (s:={ s with heap:=h3,toks:=t3 }) st3.st (st3.rep rold) rv e4 λur h4 t4 μ4 st4 rr=>?_;refine yW (s:={ s with heap:=h4,toks:=t4 }) WO.kin WO.cls st4.st (st4.rep (st3.rep (st2.rep ro))) rr e5 λh5 t5 μ5 st5=>?_;have all:=((s12.trans st3).trans st4).trans st5;exact h _ _ _ _ all.toF (f.step S all) .next
end
section
variable {X O:Addr→Prop}{w:World}{h h' hZ:Heap}{K:Frag}{call:CT}{n:Nat}{μ μ':List Loc}{A:Around}{sc:Scope}{env:Env}{ρ ρ':LE}{E:Value→Shared→Prop}{s:Shared}{Y Y':H}{x y z v:V}{u:Value}
theorem bh3 (WO:WOk w hZ K)(OF:l7 call)(FO:p8 w hZ n call){t:Expr}{Q:Unit→Shared→Prop}(hA:AOk n A)(S:Sta X w hZ s.heap μ Y)(f:FrameAt X O w sc env s.heap μ (Fz X μ Y) ρ)(r:cD w s.heap μ (Fz X μ Y) v u)
  (e:asg call t v sc ρ Y=some (ρ',Y')) (h:∀h' t' μ',Stf X O w hZ s.heap μ Y h' μ' Y'→FrameAt X O w sc env h' μ' (Fz X μ' Y') ρ'→Q () { s with heap:=h',toks:=t' }) :
  wpAny (model prog w) A (assign t env u) Q E s:=by
 have attr:∀{o x q},(aB (ev call o sc ρ) λov=>aB (bH x v ov) λ_=>ret ρ) Y=some (ρ',Y')→wpAny (model prog w) A (assign (.Attribute o x q) env u) Q E s:=by
  intro o x q e;replace e:=aG.mp e;obtain⟨ov,Y₁,e1,e⟩:=e;replace e:=aG.mp e;obtain⟨_,Y₂,e2,e⟩:=e;replace e:=aM.mp e;obtain⟨rfl,rfl⟩:=e;rw[arm_assign_Attribute];refine zW (wpAny_holding (bx9 WO OF FO o X O A sc env _ hA _ _ _ _ _ _ _ S f e1 λuo h1 t1 μ1 st1 ro=>zW (wpAny_standAt (zW (wpAny_holding ?_)))));refine yW (s:={ s with heap:=h1,toks:=t1 }) WO.kin WO.cls st1.st ro (st1.rep r) e2 λh2 t2 μ2 st2=>wpAny_release' ?_;have st:=st1.trans st2;exact h _ _ _ st.toF (f.step S st)
 have item:∀{o i q},(aB (ev call o sc ρ) λov=>aB (ev call i sc ρ) λiv=>aB (b7 iv v ov) λ_=>ret ρ) Y=some (ρ',Y')→wpAny (model prog w) A (assign (.Subscript o i q) env u) Q E s:=by
  intro o i q e;replace e:=aG.mp e;obtain⟨ov,Y₁,e1,e⟩:=e;replace e:=aG.mp e;obtain⟨iv,Y₂,e2,e⟩:=e;replace e:=aG.mp e;obtain⟨_,Y₃,e3,e⟩:=e;replace e:=aM.mp e;obtain⟨rfl,rfl⟩:=e;rw[arm_assign_Subscript];refine zW (wpAny_holding (bx9 WO OF FO o X O A sc env _ hA _ _ _ _ _ _ _ S f e1 λuo h1 t1 μ1 st1 ro=>?_));refine zW (wpAny_holding (bx9 WO OF FO i X O A sc env _ hA _ _ _ _ _ _ _ st1.st (f.step S st1) e2 λui h2 t2 μ2 st2 ri=>zW (wpAny_standAt (zW (wpAny_holding ?_)))));refine aE6 (s:={ s with heap:=h2,toks:=t2 }) (by have:=hA.units;lia) st2.st (st2.rep ro) ri (st2.rep (st1.rep r)) e3 λh3 t3 μ3 st3=>wpAny_release' ?_;have st:=(st1.trans st2).trans st3;exact h _ _ _ st.toF (f.step S st)
 cases t
 case Name id q=>
  clear attr item;have e':(if fG sc id then ret (upd ρ id v)else fail) Y=some (ρ',Y'):=e;clear e;split at e'
  ·rename_i hx;obtain⟨rfl,rfl⟩:=aM.mp e';exact jZ f S hx r λh' t' st f'=>h _ _ _ st f'
  ·exact aV e'
 case Tuple es k q=>
  clear attr item;have e':bL (kP sc (.Tuple es k q) v ρ) Y=some (ρ',Y'):=e;clear e;obtain⟨e1,rfl⟩:=bB.mp e';exact aq5 hA.handled f S e1 r λh' t' st f'=>h _ _ _ st f'
 case Attribute o x q=>exact attr e
 case Subscript o i q=>
  cases i
  case Slice=>exact aV e
  all_goals exact item e
 all_goals exact aV e
theorem aS6 {t value:Expr}{pos:Pos}{Q:Flow→Shared→Prop}(hs:swapsWith value (some t) pos.line env=pure false)(hw:swappedStores [t] value env=pure none)(ht:∀e p,t≠.Starred e p)
  (h:wpAny (model prog w) A (eval value env) (λv s₁=>wpAny (model prog w) A (assign t env v) (λ_=>Q .next) E s₁) E s):wpAny (model prog w) A (exec (.Assign [t] value pos) env) Q E s:=by
 rw[arm_exec_Assign];have he:assignEach [t] env=[(false,assign t env)]:=by cases t<;>first | rfl | exact absurd rfl (ht _ _)
 have hs':swapsWithSole [t] value pos.line env=pure false:=hs;rw[hs',hw,he];refine zW (wpAny_standAt (zW (zP ?_)));show wpAny _ _ (eval value env >>= _) _ _ _;refine zW (wpAny_mono h (λv s₁ h₁=>?_) λ_ _ x=>x);refine zW (zP ?_);show wpAny _ _ (assign t env v >>= λ_=>pure Flow.next) _ _ _;exact zW (wpAny_mono h₁ (λ_ s₂ h₂=>zP h₂) λ_ _ x=>x)
theorem bo5 (WO:WOk w hZ K)(OF:l7 call)(FO:p8 w hZ n call){t value:Expr}{pos:Pos}{m:Scope→LE→M V}{mm:Scope→LE→M (Fl×LE)}(hm:mm=λsc ρ=>aB (m sc ρ) λv=>aB (asg call t v sc ρ) λρ'=>ret (.next,ρ'))
  (hv:∀X O A sc env ρ,AOk n A→Pc w hZ X O A sc env ρ (m sc ρ) (eval value env)) (hs:∀(env:Env) line,swapsWith value (some t) line env=pure false) (hw:∀env,swappedStores [t] value env=pure none) (ht:∀e p,t≠.Starred e p) :
  c0 w hZ n mm (λenv=>exec (.Assign [t] value pos) env):=by
 subst hm;intro X O A sc env s μ Y Y' ρ p Q hA S f e h;replace e:=aG.mp e;obtain⟨v,Y₁,e1,e⟩:=e;replace e:=aG.mp e;obtain⟨ρ',Y₂,e2,e⟩:=e;replace e:=aM.mp e;obtain⟨rfl,rfl⟩:=e;refine aS6 (hs _ _) (hw _) ht (hv X O A sc env ρ hA _ _ _ _ _ _ _ S f e1 λu h1 t1 μ1 st1 r1=>?_);exact bh3 (s:={ s with heap:=h1,toks:=t1 }) WO OF FO hA st1.st (f.step S st1) r1 e2 λh2 t2 μ2 st2 f2=>h _ _ _ _ (Stf.trans f.own S st1.toF st2) f2 .next
end
section
variable {X X' O:Addr→Prop}{w:World}{h h' hZ:Heap}{K:Frag}{call:CT}{n:Nat}{μ μ':List Loc}{A:Around}{sc:Scope}{env:Env}{ρ ρ':LE}{E:Value→Shared→Prop}{s:Shared}{Y Y':H}{x y z v:V}{u:Value}{I a:Addr}
theorem by6 {o lo:Expr}{q q2 p:Pos}(ho:fQ w hZ call n o)(hi:fQ w hZ call n lo) :
  c0 w hZ n (λsc ρ=>ex call (.Delete [.Subscript o (.Slice (some lo) none none q2) q] p) sc ρ) (λenv=>exec (.Delete [.Subscript o (.Slice (some lo) none none q2) q] p) env):=by
 intro X O A sc env s μ Y Y' ρ p Q hA S f e h;have e':(aB (ev call o sc ρ) λov=>aB (ev call lo sc ρ) λl=>aB (bL (cA l)) λi=>aB (g9 i ov) λ_=>ret (Fl.next,ρ)) Y=some (p,Y'):=e;replace e':=aG.mp e';obtain⟨ov,Y₁,e1,e'⟩:=e';replace e':=aG.mp e';obtain⟨l,Y₂,e2,e'⟩:=e';replace e':=aG.mp e';obtain⟨i,_,z2,e'⟩:=e';replace z2:=bB.mp z2;obtain⟨hl,rfl⟩:=z2;replace e':=aG.mp e';obtain⟨_,Y₃,e3,e'⟩:=e';replace e':=aM.mp e';obtain⟨rfl,rfl⟩:=e';refine wpAny_Delete (wpAny_deleteEach_cons (wpAny_delete_Subscript (ho X O A sc env ρ hA _ _ _ _ _ _ _ S f e1 λuo h1 t1 μ1 st1 ro=>wpAny_Slice (hi X O A sc env ρ hA _ _ _ _ _ _ _ st1.st (f.step S st1) e2 λui h2 t2 μ2 st2 ri=>?_))));rw[evalPart_none];refine zP (zP ?_);cases yH hl;obtain⟨t,rfl⟩:=ri;have st3:=Stp.push st2.st { cls:=.type "slice",data:=.fields #[.int i t,.none,.none] };refine aI0 (s:={ s with heap:=h2.push { cls:=.type "slice",data:=.fields #[.int i t,.none,.none] },toks:=t2 }) st3.st (st3.rep (st2.rep ro)) (Heap.IsSliceOf.new ..) e3 λh4 t4 μ4 st4=>wpAny_deleteEach_nil ?_;have stt:=((st1.trans st2).trans st3).trans st4;exact h _ _ _ _ stt.toF (f.step S stt) .next
theorem bg4 {t:Expr}{b:List Stmt}{p:Pos}(ht:aT0 w hZ call n t)(hb:c0 w hZ n (λsc ρ=>uH call b sc ρ) (λenv=>execs b env)) :
  c0 w hZ n (λsc ρ=>ex call (.While t b [] p) sc ρ) (λenv=>exec (.While t b [] p) env):=by
 intro X O A sc env s μ Y Y' ρ pp Q hA S f e h;have e':qF (λρ=>zV call t sc ρ (ev call t sc ρ)) (λρ=>uH call b sc ρ) 1000 ρ Y=some (pp,Y'):=e;refine wpAny_While ?_;refine Fl.opqJ (λ(k:Nat) (s':Shared)=>∃hh tt μ₁ Y₁ ρ₁,s'={ s with heap:=hh,toks:=tt }∧Stf X O w hZ s.heap μ Y hh μ₁ Y₁∧FrameAt X O w sc env hh μ₁ (Fz X μ₁ Y₁) ρ₁∧
  qF (λρ=>zV call t sc ρ (ev call t sc ρ)) (λρ=>uH call b sc ρ) k ρ₁ Y₁=some (pp,Y')) λJ jin jout=>?_
 refine codeAny_whileLoop J (λk s' hJ=>?_) 1000 (jin ⟨s.heap,s.toks,μ,Y,ρ,rfl,Stf.refl S,f,e'⟩);obtain⟨hh,tt,μ₁,Y₁,ρ₁,rfl,st,f₁,e₁⟩:=jout hJ;cases k with
 | zero=>exact aV e₁
 | succ k=>
 have e₂:(aB (zV call t sc ρ₁ (ev call t sc ρ₁)) λc=>if c then aB (uH call b sc ρ₁) (am0 (qF (λρ=>zV call t sc ρ (ev call t sc ρ)) (λρ=>uH call b sc ρ) k))else ret (Fl.next,ρ₁)) Y₁=some (pp,Y'):=e₁;replace e₂:=aG.mp e₂;obtain⟨c,Y₂,et,e₃⟩:=e₂;clear e e' e₁ hJ;refine ht X O A sc env ρ₁ _ hA rfl _ { s with heap:=hh,toks:=tt } _ _ _ _ _ st.st f₁ et λh2 t2 μ2 st2=>?_;have f₂:=f₁.step st.st st2;have stA:Stf X O w hZ s.heap μ Y h2 μ2 Y₂:=Stf.trans f₁.own S st st2.toF;cases c
 ·clear jin jout et;obtain⟨rfl,rfl⟩:=aM.mp (show ret (Fl.next,ρ₁) Y₂=some (pp,Y')from e₃);exact wpAny_execs_nil (h _ _ _ _ stA f₂ .next)
 ·simp only[if_true]at e₃ ⊢;obtain⟨⟨fl,ρ₂⟩,Y₃,eb,e₄⟩:=aG.mp e₃;refine wpAny_mono (hb X O A sc env { s with heap:=h2,toks:=t2 } μ2 Y₂ Y₃ ρ₁ _ _ hA st2.st f₂ eb λfl' h3 t3 μ3 st3 f3 r3=>?_) (λ_ _ q=>q) (λ_ _ q=>q.elim);have stB:=Stf.trans f₁.own S stA st3;cases r3 with
  | next=>refine⟨k,Nat.lt_succ_self _,jin ?_⟩;exact⟨h3,t3,μ3,Y₃,ρ₂,rfl,stB,f3,e₄⟩
  | @ret v u r=>
   clear jin jout et e₃;obtain⟨rfl,rfl⟩:=aM.mp (show ret (Fl.ret v,ρ₂) Y₃=some (pp,Y')from e₄);exact h _ _ _ _ stB f3 (.ret r)
theorem FrameAt.grow (f:FrameAt X O w sc env h μ (Fz X μ Y) ρ)(S:Sta X w hZ h μ Y)(keep:∀b o,h.get? b=some o→h'.get? b=some o)(hX:∀b,X b→X' b)(hX':∀b,X' b→X b∨(h.get? b=none∧∃o,h'.get? b=some o)) :
  FrameAt X' O w sc env h' μ (Fz X' μ Y) ρ:=f.carry hX (λb _ o e=>keep b o e) (Kept.frame S keep hX')
theorem FrameAt.shrink (f:FrameAt X' O w sc env h μ (Fz X' μ Y) ρ)(hX:∀b,X b→X' b)(hO:∀b,O b→X b)(hC:∀y c,env.cells.lookup y=some c→X c)(hx:X' a)(hL:env.locals≠a)(hca:∀y c,env.cells.lookup y=some c→c≠a)
  (hk:∀b o,b≠a→h.get? b=some o→h'.get? b=some o):FrameAt X O w sc env h' μ (Fz X μ Y) ρ:=by
 have K:Kept h μ (Fz X' μ Y) h' μ (Fz X μ Y):=Kept.dropK hx hX hk;have g:=f.keepAll K λb q o e=>hk b o (by
  rcases q with q | ⟨y,q⟩
  ·rw[q];exact hL
  ·exact hca y b q) e
 exact⟨g.ok,g.kind,g.loc,g.cel,g.fre,g.glo,g.globals,g.builtins,hO,g.ownL,g.ownC,hC,g.apart,g.apartL,g.ns,g.cells⟩
theorem aB9 {wch:M Unit}{f:V→LE→M (Fl×LE)}{y:V}{r:List V}{p:Fl×LE}(e:ac0 wch f (y::r) ρ Y=some (p,Y')) :
  ∃u0 Y₁ q Y₂,wch Y=some (u0,Y₁)∧f y ρ Y₁=some (q,Y₂)∧am0 (ac0 wch f r) q Y₂=some (p,Y'):=by
 have e':(aB wch λ_=>aB (f y ρ) (am0 (ac0 wch f r))) Y=some (p,Y'):=e;replace e':=aG.mp e';obtain⟨u0,Y₁,h1,e'⟩:=e';replace e':=aG.mp e';obtain⟨q,Y₂,h2,h3⟩:=e';exact⟨u0,Y₁,q,Y₂,h1,h2,h3⟩
theorem aP7 {wch:M Unit}{f:V→LE→M (Fl×LE)}{p:Fl×LE}(e:ac0 wch f [] ρ Y=some (p,Y')):∃u0,wch Y=some (u0,Y')∧p=(.next,ρ):=by
 have e':(aB wch λ_=>ret (Fl.next,ρ)) Y=some (p,Y'):=e;replace e':=aG.mp e';obtain⟨u0,Y₁,h1,e'⟩:=e';replace e':=aM.mp e';obtain⟨rfl,rfl⟩:=e';exact⟨u0,h1,rfl⟩
theorem bI6 {tgt it:Expr}{b:List Stmt}{p:Pos}(hi:fQ w hZ call n it)(hset:∀ks k q,it≠.Set ks k q)
  (hb:c0 w hZ n (λsc ρ=>uH call b sc ρ) (λenv=>execs b env)) :
  c0 w hZ n (λsc ρ=>ex call (.For tgt it b [] p) sc ρ) (λenv=>exec (.For tgt it b [] p) env):=by
 intro X O A sc env s μ Y Y' ρ pp Q hA S f e h;have e':(aB (ev call it sc ρ) λx=>aB (bU x) λxs=>ac0 (still xs (aP x)) (λx ρ=>aB (bL (kP sc tgt x ρ)) λρ'=>uH call b sc ρ') xs ρ) Y=some (pp,Y'):=e;replace e':=aG.mp e';obtain⟨x,Y₁,e1,e'⟩:=e';replace e':=aG.mp e';obtain⟨xs,Y₂,e2,e3⟩:=e';refine wpAny_For (hi X O A sc env ρ hA _ _ _ _ _ _ _ S f e1 λui h1 t1 μ1 st1 ri=>?_) (af1 hset);have f1:=f.step S st1;refine aO3 (s:={ s with heap:=h1,toks:=t1 }) st1.st ri e2 λes oI itA=>?_;subst es;have keep:∀b o,h1.get? b=some o→(h1.push oI).get? b=some o:=λb o e=>Heap.get?_push_of_some _ e;have nI:h1.get? h1.objs.size=none:=zN;have noX:¬X h1.objs.size:=λz=>by obtain⟨o,e⟩:=(st1.st.frames _ z).2;rw[nI]at e;cases e
 let X':Addr→Prop:=λb=>X b∨b=h1.objs.size
 have hX':∀b,X' b→X b∨(h1.get? b=none∧∃o,(h1.push oI).get? b=some o):=by
  rintro b (q | rfl)
  ·exact .inl q
  ·exact .inr ⟨nI,itA.ex⟩
 have S':Sta X' w hZ (h1.push oI) μ1 Y₁:=st1.st.frame keep (λb q=>.inl q) hX';have Kf:=Kept.frame (X':=X') st1.st keep hX';have F':FrameAt X' O w sc env (h1.push oI) μ1 (Fz X' μ1 Y₁) ρ:=f1.grow st1.st keep (λb q=>.inl q) hX';have neI:∀c,X c→c≠h1.objs.size:=λc q z=>noX (z▸q)
 let O':Addr→Prop:=λb=>O b∨b=h1.objs.size
 have hO':∀b,O' b→X' b:=λb q=>q.elim (λq=>.inl (f1.own b q)) .inr;have out:∀{hz:Heap} {tz:Tok} {μz:List Loc} {Yz:H} {ρz:LE} {hz':Heap} {tz':Tok} {fl:Fl} {fl':Flow},Stf X' O' w hZ (h1.push oI) μ1 Y₁ hz μz Yz→FrameAt X' O w sc env hz μz (Fz X' μz Yz) ρz→(∀b o,b≠h1.objs.size→hz.get? b=some o→hz'.get? b=some o)→
   FlRep w hz μz (Fz X' μz Yz) fl fl'→pp=(fl,ρz)→Yz=Y'→Q fl' { s with heap:=hz',toks:=tz' }:=by
  intro hz tz μz Yz ρz hz' tz' fl fl' stz fz hkz rz hp hs;subst hs;clear e e3;have Sz:Sta X w hZ hz' μz Yz:=stz.st.dropK (a:=h1.objs.size) (.inr rfl) (λb q=>.inl q) noX hkz;have Kz:Kept hz μz (Fz X' μz Yz) hz' μz (Fz X μz Yz):=Kept.dropK (.inr rfl) (λb q=>.inl q) hkz;have stX:Stf X O w hZ h1 μ1 Y₁ hz' μz Yz:=by
   refine⟨stz.pre,Sz,λb o e q1 q2=>?_,λb q=>?_⟩
   ·have ne:b≠h1.objs.size:=λz=>by rw[z,nI]at e;cases e
    exact hkz b o ne (stz.keep b o (keep b o e) q1 (by rintro(z | z);exact q2 z;exact ne z))
   ·refine(stz.wr b q).imp id λz=>?_;cases e':h1.get? b with
    | none=>rfl
    | some o=>rw[keep b o e']at z;cases z
  have fX:FrameAt X O w sc env hz' μz (Fz X μz Yz) ρz:=fz.shrink (λb q=>.inl q) f1.own f1.inX (.inr rfl) (neI _ (f1.own _ f1.ownL)) (λy c q=>neI c (f1.inX y c q)) hkz;refine h fl' hz' tz' μz (Stf.trans f1.own S st1.toF stX) (by rw[hp];exact fX) ?_;rw[hp];cases rz with
  | next=>exact .next
  | ret r=>exact .ret (cD.kept Kz _ _ r)
 refine Fl.opqJ (λ(k:Nat) (s':Shared)=>∃i hh tt μ₁ Ya ρ₁,s'={ s with heap:=hh,toks:=tt }∧k=xs.length - i∧i≤xs.length∧Stf X' O' w hZ (h1.push oI) μ1 Y₁ hh μ₁ Ya∧FrameAt X' O w sc env hh μ₁ (Fz X' μ₁ Ya) ρ₁∧
  eW hh h1.objs.size i x ui∧cD w hh μ₁ (Fz X' μ₁ Ya) x ui∧ac0 (still xs (aP x)) (λx ρ=>aB (bL (kP sc tgt x ρ)) λρ'=>uH call b sc ρ') (xs.drop i) ρ₁ Ya=some (pp,Y')) λJ jin jout=>?_
 refine codeAny_forLoop_any J (λk s' hJ=>?_) xs.length (jin ?_);rotate_left
 ·exact⟨0,_,t1,μ1,Y₁,ρ,rfl,rfl,Nat.zero_le _,Stf.refl S',F',itA,cD.kept Kf _ _ ri,by rw[List.drop_zero];exact e3⟩
 obtain⟨i,hh,tt,μ₁,Ya,ρ₁,rfl,hk,hi',st,f₁,ita,ru,e₁⟩:=jout hJ;have Sa:=st.st;have stl:bU x Ya=some (xs,Ya):=by
  cases q:xs.drop i with
  | nil=>rw[q]at e₁;obtain⟨_,e,_⟩:=aP7 e₁;exact(fS (wt:=none) e2 e).2
  | cons y r=>rw[q]at e₁;obtain⟨_,_,_,_,e,_⟩:=aB9 e₁;exact(fS (wt:=none) e2 e).2
 refine aN1 (s:={ s with heap:=hh,toks:=tt }) hA.handled Sa ru ita stl hi' (.inr rfl) (λy v h2 t2 hy hk2 hz2 it2 rv=>?_) λhlen h2 t2 hk2=>?_
 ·have hlt:i < xs.length:=(zG hy).1
  have hdrop:xs.drop i=y::xs.drop (i+1):=by
   rw[List.drop_eq_getElem_cons hlt];congr 1;exact(zG hy).2
  rw[hdrop]at e₁;obtain⟨_,_,⟨fl,ρ₃⟩,Y₄,ew,ef,er⟩:=aB9 e₁;obtain⟨es,_⟩:=fS (wt:=none) e2 ew;rw[es]at ef;obtain⟨ρ₂,Yb,hbt,eb⟩:=aG.mp ef;obtain⟨hbt,hYb⟩:=bB.mp hbt;rw[←hYb]at eb;have K2:Kept hh μ₁ (Fz X' μ₁ Ya) h2 μ₁ (Fz X' μ₁ Ya):=⟨List.prefix_refl _,λb o e f=>⟨hk2 b o (λq=>f.2 (.inr q)) e,f⟩⟩;have S2:Sta X' w hZ h2 μ₁ Ya:=Sa.ownK (a:=h1.objs.size) (.inr rfl) hk2 hz2;have st2:Stf X' O' w hZ hh μ₁ Ya h2 μ₁ Ya:=⟨List.prefix_refl _,S2,λb o e _ q=>hk2 b o (λz=>q (.inr z)) e,λb q=>.inl q⟩;have f2:FrameAt X' O w sc env h2 μ₁ (Fz X' μ₁ Ya) ρ₁:=f₁.keepAll K2 λb q o e=>hk2 b o (by
   rcases q with q | ⟨z,q⟩
   ·rw[q];exact neI _ (f1.own _ f1.ownL)
   ·exact neI b (f1.inX z b q)) e
  have notO:¬O h1.objs.size:=λq=>noX (f1.own _ q);refine aA3 (s:={ s with heap:=h2,toks:=t2 }) it2 (aq5 (s:={ s with heap:=h2,toks:=t2 }) hA.handled f2 S2 hbt rv λh3 t3 st3 f3=>?_);have it3:eW h3 h1.objs.size (i+1) x ui:=it2.kept λo e=>st3.keep _ o e (S2.notWr (.inr rfl)) notO;have st3':Stf X' O' w hZ h2 μ₁ Ya h3 μ₁ Ya:=⟨st3.pre,st3.st,λb o e q1 q2=>st3.keep b o e q1 (λz=>q2 (.inl z)),st3.wr⟩;refine wpAny_mono (hb X' O A sc env { s with heap:=h3,toks:=t3 } μ₁ Ya Y₄ ρ₂ (fl,ρ₃) _ hA st3.st f3 eb λfl' h4 t4 μ4 st4 f4 r4=>?_) (λ_ _ q=>q) (λ_ _ q=>q.elim);have st4':Stf X' O' w hZ h3 μ₁ Ya h4 μ4 Y₄:=⟨st4.pre,st4.st,λb o e q1 q2=>st4.keep b o e q1 (λz=>q2 (.inl z)),st4.wr⟩;have all:Stf X' O' w hZ (h1.push oI) μ1 Y₁ h4 μ4 Y₄:=Stf.trans hO' S' st (Stf.trans hO' Sa st2 (Stf.trans hO' S2 st3' st4'));cases r4 with
  | next=>
   have it4:eW h4 h1.objs.size (i+1) x ui:=it3.kept λo e=>st4.keep _ o e (st3.st.notWr (.inr rfl)) notO;have rx:cD w h4 μ4 (Fz X' μ4 Y₄) x ui:=st4.rep f3.own (st3.rep f2.own (cD.kept K2 _ _ ru));refine⟨xs.length - (i+1),by rw[hk];exact Nat.sub_lt_sub_left hlt (Nat.lt_succ_self i),jin ?_⟩;exact⟨i+1,h4,t4,μ4,Y₄,ρ₃,rfl,rfl,hlt,all,f4,it4,rx,er⟩
  | @ret v u r=>
   obtain⟨hp,hs⟩:=aM.mp (show ret (Fl.ret v,ρ₃) Y₄=some (pp,Y')from er);exact out (tz:=t4) all f4 (λb o _ e=>e) (.ret r) hp hs
 ·rw[List.drop_of_length_le (by lia)]at e₁;obtain⟨_,ew,hp⟩:=aP7 e₁;obtain⟨es,_⟩:=fS (wt:=none) e2 ew;exact wpAny_execs_nil (out (tz:=tt) st f₁ hk2 .next hp es.symm)
end
section
variable {X X' O:Addr→Prop}{w:World}{h h' hZ:Heap}{K:Frag}{call:CT}{n:Nat}{μ μ':List Loc}{A:Around}{sc:Scope}{env:Env}{ρ ρ':LE}{E:Value→Shared→Prop}{s:Shared}{Y Y':H}{x y z v:V}{u:Value}{I a:Addr}
theorem aK3 {csc:Scope}{tgt iter elt:Expr}{ifs:List Expr}{pos p q:Pos}{id:Str}{tst:LE→M Bool}(hi:fQ w hZ call n iter)(hset:∀ks k q,iter≠.Set ks k q)(he:fQ w hZ call n elt)
  (htt:∀A,AOk n A→∀X' O' cenv ρ',PcB w hZ X' O' A csc cenv ρ' (tst ρ') (forIn ifs true λc r=>if r=true then do let ok ←isTrue c cenv (eval c cenv);pure (ForInStep.yield ok)else pure (ForInStep.yield r))) :
  c0 w hZ n (λsc ρ=>aB (aB (dD (okC sc csc)) λ_=>aB (ev call iter sc ρ) λit=>aB (c8 it) λxs=>aB (bK (still xs (aP it)) (w3 csc tgt (pI csc ρ) tst (λρ'=>ev call elt csc ρ')) xs) λys=>ret (.lst ys)) λv=>aB (asg call (.Name id q) v sc ρ) λρ'=>ret (.next,ρ'))
   (λenv=>exec (.Assign [.Name id q] (.ListComp elt [⟨tgt,iter,ifs,0⟩] csc pos) p) env):=by
 intro X O A sc env s μ Y Y' ρ pp Q hA S f e h;obtain⟨v,Y₁,e1,e2⟩:=aG.mp e;have e1':=e1;replace e2:=aG.mp e2;obtain⟨ρ',Y₂,e2,e2⟩:=e2;replace e2:=aM.mp e2;obtain⟨rfl,rfl⟩:=e2;have hsw:∃c:Bool,swapsWith (.ListComp elt [⟨tgt,iter,ifs,0⟩] csc pos) (some (.Name id q)) p.line env=pure c:=⟨_,rfl⟩;obtain⟨c,hsw⟩:=hsw;have e3:(if fG sc id then ret (upd ρ id v)else fail) Y₁=some (ρ',Y₂):=e2;split at e3
 case isFalse=>exact aV e3
 rename_i hx;obtain⟨rfl,rfl⟩:=aM.mp e3;cases c
 ·refine aS6 hsw rfl (λ_ _=>by simp) (aI3 hA hi he (htt A hA) _ _ _ _ _ _ _ S f e1 λu h1 t1 μ1 st1 r1=>?_);exact jZ (s:={ s with heap:=h1,toks:=t1 }) (f.step S st1) st1.st hx r1 λh2 t2 st2 f2=>h _ _ _ _ (Stf.trans f.own S st1.toF st2) f2 .next
 ·replace e1:=aG.mp e1;obtain⟨_,_,z0,e1⟩:=e1;replace z0:=aY.mp z0;obtain⟨ok,rfl⟩:=z0;replace e1:=aG.mp e1;obtain⟨itv,Ya,e4,e1⟩:=e1;replace e1:=aG.mp e1;obtain⟨xs,Yb,e5,e1⟩:=e1;replace e1:=aG.mp e1;obtain⟨ys,Yc,e6,e1⟩:=e1;replace e1:=aM.mp e1;obtain⟨rfl,rfl⟩:=e1;show wpAny _ _ (exec (.Assign [.Name id q] (.ListComp elt [⟨tgt,iter,ifs,0⟩] csc pos) p) env) _ _ _;rw[arm_exec_Assign];have hs':swapsWithSole [.Name id q] (.ListComp elt [⟨tgt,iter,ifs,0⟩] csc pos) p.line env=pure true:=hsw;rw[hs'];refine zW (wpAny_standAt (zW (zP ?_)));show wpAny _ _ (evalThenUse (.ListComp elt [⟨tgt,iter,ifs,0⟩] csc pos) env (λv=>assign (.Name id q) env v) >>= λ_=>pure Flow.next) _ _ _;refine zW ?_;show wpAny _ _ (comprehension (.ListComp elt [⟨tgt,iter,ifs,0⟩] csc pos) csc env (firstIterPos [⟨tgt,iter,ifs,0⟩] pos) (newList []) (firstAsync [⟨tgt,iter,ifs,0⟩]) (firstIter [⟨tgt,iter,ifs,0⟩] env) (some λv=>assign (.Name id q) env v) >>= λ_=>pure ()) _ _ _;refine zW (uF hA.handled (hi X O A sc env ρ hA) (af1 hset) (htt A hA) (λX' O' cenv ρ'=>he _ _ _ _ _ _ hA) (some λv=>assign (.Name id q) env v) NoE s μ Y _ itv Ya xs Yb ys _ S f ok e4 e5 e6 λC D h5 t5 μ4 nXC nC st SC hn r=>?_);have hXC:∀b,X b→(X b∨b=C):=λb q=>.inl q;have KC:Kept s.heap μ (Fz X μ Y) h5 μ4 (Fz (λb=>X b∨b=C) μ4 _):=⟨st.pre,λb o e f=>⟨(st.kept.keep b o e f).1,(st.kept.keep b o e f).2.1,λq=>q.elim f.2 λz=>by rw[z,nC]at e;cases e⟩⟩;have fC:FrameAt (λb=>X b∨b=C) O w sc env h5 μ4 (Fz (λb=>X b∨b=C) μ4 _) ρ:=f.carry hXC (λb xb o e=>st.keep b o e (S.notWr xb)) KC;have nOC:¬O C:=λq=>nXC (f.own _ q);refine jZ (s:={ s with heap:=h5,toks:=t5 }) fC SC hx r λh6 t6 st6 f6=>?_;obtain⟨m,o,es,ep,ho,hr⟩:=hn;refine⟨m,⟨o,es,ep,st6.keep _ _ ho (SC.notWr (.inr rfl)) nOC,hr⟩,λh7 sb7=>zP (zP ?_)⟩;have k7:∀b o,b≠C→h6.get? b=some o→h7.get? b=some o:=λb o q e=>(sb7.2 b q).trans e;have neC:∀c,X c→c≠C:=λc q z=>nXC (z▸q);have S7:Sta X w hZ h7 μ4 _:=st6.st.dropK (a:=C) (.inr rfl) hXC nXC k7;have f7:=f6.shrink (a:=C) hXC f.own f.inX (.inr rfl) (neC _ (f.own _ f.ownL)) (λy c q=>neC c (f.inX y c q)) k7;refine h .next h7 t6 μ4 ⟨st.pre,S7,λb o e q1 q2=>?_,λb q=>?_⟩ f7 .next
  ·have e5:=st.keep b o e q1
   have nb:b≠C:=λz=>by rw[z,nC]at e;cases e
   refine k7 b o nb (st6.keep b o e5 (λhw=>(st.wr b hw).elim q1 λg=>by rw[e]at g;cases g) q2)
  ·rcases st6.wr b q with g | g
   ·exact st.wr b g
   ·refine aA0 (W:=Wr μ Y) (h:=s.heap) (h':=h5) (λb o e q=>st.keep b o e q) g
end
theorem aC {α β γ:Type}(m:M α)(f:α→M β)(g:β→M γ):aB (aB m f) g=aB m λa=>aB (f a) g:=by
 funext Y;unfold aB;cases m Y<;>rfl
theorem bx3 {α β:Type}(f:α→M β):aB (fail:M α) f=fail:=rfl
section
variable {w:World}{hZ:Heap}{K:Frag}{call:CT}{n:Nat}{sc:Scope}{ρ:LE}
theorem aW3 {es:List Expr}{q:Pos}(h:∀e∈es,fQ w hZ call n e):∀X O A sc env ρ,AOk n A→Pc w hZ X O A sc env ρ (if es.length≤1000 then aB (j0 false (kG call es sc ρ)) λvs=>bN (.list vs)else fail) (eval (.List es q) env):=by
 intro X O A sc env ρ hA;refine Pc.ite λhz=>?_;intro E s μ Y Y' x Q S f e h';obtain⟨vs,Y₁,e1,_⟩:=aG.mp e;exact aN6 (qN hA es h) (xI es e1) (by rw[ad3];exact hz) E s μ Y Y' x Q S f e h'
theorem aY3 {ks:List (Option Expr)}{vs:List Expr}{q:Pos}(hk:∀e,fQ w hZ call n e):∀X O A sc env ρ,AOk n A→Pc w hZ X O A sc env ρ
  (aB (fU (rQ call ks sc ρ) (kG call vs sc ρ)) λkv=>if(kv.map (·.1)).Nodup∧kv.all (λe=>kS e.1)=true∧kv.length≤15 then bN (.dict kv)else fail) (eval (.Dict ks vs q) env):=by
 intro X O A sc env ρ hA;cases ks with
 | nil=>
  cases vs with
  | nil=>exact zZ
  | cons v vs=>
   intro E s μ Y Y' x Q S f e h;obtain⟨_,_,e1,_⟩:=aG.mp e;exact((oH (α:=List (V×V))).mp e1).elim
 | cons k ks=>exact aQ6 (by have:=hA.units;lia) (by simp) (λX' O' e _=>hk e _ _ _ _ _ _ hA) (λX' O' e _=>hk e _ _ _ _ _ _ hA)
theorem iP {value t:Expr}(h:∀a b c,t≠.Tuple a b c)(h2:∀a b,t≠.List a b)(env:Env):swappedStores [t] value env=pure none:=by
 cases t<;>first | rfl | exact absurd rfl (h _ _ _) | exact absurd rfl (h2 _ _)
structure PlainE (call:CT) (e:Expr):Prop where
 rhs:∀b sc ρ,aE8 call b e sc ρ=ev call e sc ρ
 swap:∀t env line,swapsWith e (some t) line env=pure false
 stores:∀a b c env,swappedStores [.Tuple a b c] e env=pure none
 stores2:∀a b env,swappedStores [.List a b] e env=pure none
theorem bp4 (call:CT)(e:Expr):(∃es q,e=.List es q)∨(∃ks vs q,e=.Dict ks vs q)∨(∃es k q,e=.Tuple es k q)∨(∃elt gens csc q,e=.ListComp elt gens csc q)∨(∀sc ρ b,aE8 call b e sc ρ=fail)∨PlainE call e:=by
 cases e
 case List=>exact .inl ⟨_,_,rfl⟩
 case Dict=>exact .inr (.inl ⟨_,_,_,rfl⟩)
 case Tuple=>exact .inr (.inr (.inl ⟨_,_,_,rfl⟩))
 case ListComp=>exact .inr (.inr (.inr (.inl ⟨_,_,_,_,rfl⟩)))
 case SetComp=>exact .inr (.inr (.inr (.inr (.inl λ_ _ _=>rfl))))
 case DictComp=>exact .inr (.inr (.inr (.inr (.inl λ_ _ _=>rfl))))
 all_goals exact .inr (.inr (.inr (.inr (.inr ⟨λ_ _ _=>rfl,λ_ _ _=>rfl,λ_ _ _ _=>rfl,λ_ _ _=>rfl⟩))))
theorem PlainE.st {e t:Expr}(h:PlainE call e)(env:Env):swappedStores [t] e env=pure none:=by
 by_cases h1:∃a b c,t=.Tuple a b c
 ·obtain⟨a,b,c,rfl⟩:=h1;exact h.stores a b c env
 by_cases h2:∃a b,t=.List a b
 ·obtain⟨a,b,rfl⟩:=h2;exact h.stores2 a b env
 exact iP (λa b c e=>h1 ⟨a,b,c,e⟩) (λa b e=>h2 ⟨a,b,e⟩) env
theorem u9 (t:Expr):(∃a b c,t=.Tuple a b c)∨(lU t=false∧∀a b c,t≠.Tuple a b c):=by
 have q:lU t=true→∃a b c,t=.Tuple a b c:=by
  cases t<;>first | exact λ_=>⟨_,_,_,rfl⟩ | exact oN
 cases h:lU t
 ·exact .inr ⟨rfl,λa b c e=>by rw[e]at h;exact Bool.noConfusion (show true=false from h)⟩
 ·exact .inl (q h)
theorem bG1 (t:Expr):(∃id c,t=.Name id c)∨∀elt gens csc q env line,swapsWith (.ListComp elt gens csc q) (some t) line env=pure false:=by
 cases t
 case Name=>exact .inl ⟨_,_,rfl⟩
 all_goals exact .inr λ_ _ _ _ _ _=>rfl
theorem c0.asgFail {t:Expr}{m:Scope→LE→M V}{mm:Scope→LE→M (Fl×LE)}{tt:Env→Sem Flow}(hm:mm=λsc ρ=>aB (m sc ρ) λv=>aB (asg call t v sc ρ) λρ'=>ret (Fl.next,ρ'))(ht:∀v sc ρ,asg call t v sc ρ=Mine.Internal.fail):c0 w hZ n mm tt:=by
 subst hm;intro X O A sc env s μ Y Y' ρ pp Q hA S f e h;obtain⟨v,Y₁,e1,e2⟩:=aG.mp e;rw[ht]at e2;exact(oH.mp (aG.mp e2).choose_spec.choose_spec.1).elim
theorem lY (WO:WOk w hZ K)(OF:l7 call)(FO:p8 w hZ n call){t value:Expr}{p:Pos}{m:Scope→LE→M V}(hm:∀sc ρ,aE8 call (lU t) value sc ρ=m sc ρ)
  (hv:∀X O A sc env ρ,AOk n A→Pc w hZ X O A sc env ρ (m sc ρ) (eval value env)) (hs:∀(env:Env) line,swapsWith value (some t) line env=pure false) (hw:(∀a b,t≠.List a b)→∀env,swappedStores [t] value env=pure none) :
  c0 w hZ n (λsc ρ=>ex call (.Assign [t] value p) sc ρ) (λenv=>exec (.Assign [t] value p) env):=by
 have hmm:(λsc ρ=>ex call (.Assign [t] value p) sc ρ)=λsc ρ=>aB (m sc ρ) λv=>aB (asg call t v sc ρ) λρ'=>ret (Fl.next,ρ'):=by
  funext sc ρ;show(aB (aE8 call (lU t) value sc ρ) λv=>aB (asg call t v sc ρ) λρ'=>ret (Fl.next,ρ'))=_;rw[hm]
 by_cases h1:∃a q,t=.Starred a q
 ·obtain⟨a,q,rfl⟩:=h1;exact c0.asgFail hmm λ_ _ _=>rfl
 by_cases h2:∃a q,t=.List a q
 ·obtain⟨a,q,rfl⟩:=h2;exact c0.asgFail hmm λ_ _ _=>rfl
 exact bo5 WO OF FO hmm hv hs (hw λa b e=>h2 ⟨a,b,e⟩) λe p q=>h1 ⟨e,p,q⟩
theorem bf9 {t value:Expr}{p:Pos}(hm:∀sc ρ,aE8 call (lU t) value sc ρ=fail):c0 w hZ n (λsc ρ=>ex call (.Assign [t] value p) sc ρ) (λenv=>exec (.Assign [t] value p) env):=by
 intro X O A sc env s μ Y Y' ρ pp Q hA S f e h;have e':(aB (aE8 call (lU t) value sc ρ) λv=>aB (asg call t v sc ρ) λρ'=>ret (Fl.next,ρ')) Y=some (pp,Y'):=e;rw[hm]at e';exact(oH.mp (aG.mp e').choose_spec.choose_spec.1).elim
theorem aQ1 {e:Expr}:(∃ks k q,e=.Set ks k q)∨∀ks k q,e≠.Set ks k q:=by
 cases e<;>first | exact .inl ⟨_,_,_,rfl⟩ | exact .inr λ_ _ _=>by simp
theorem bo3 (WO:WOk w hZ K)(OF:l7 call)(FO:p8 w hZ n call)(t value:Expr)(p:Pos):c0 w hZ n (λsc ρ=>ex call (.Assign [t] value p) sc ρ) (λenv=>exec (.Assign [t] value p) env):=by
 have ev:=λe=>bx9 WO OF FO e;have evt:=λe=>bM9 WO OF FO e;rcases bp4 call value with⟨es,q,rfl⟩ | ⟨ks,vs,q,rfl⟩ | ⟨es,k,q,rfl⟩ | ⟨elt,gens,csc,q,rfl⟩ | hb | hp
 case inl=>exact lY WO OF FO (λsc ρ=>rfl) (aW3 (q:=q) λe _=>ev e) (λ_ _=>rfl) (λhl env=>(by
  rcases u9 t with⟨a,b,c,rfl⟩ | ⟨_,h⟩
  ·rfl
  ·exact iP h hl env))
 case inr.inl=>exact lY WO OF FO (λsc ρ=>rfl) (aY3 (q:=q) ev) (λ_ _=>rfl) (λhl env=>(by
  rcases u9 t with⟨a,b,c,rfl⟩ | ⟨_,h⟩
  ·rfl
  ·exact iP h hl env))
 case inr.inr.inl=>
  rcases u9 t with⟨a,b,c,rfl⟩ | ⟨ht,h⟩
  ·exact bf9 λ_ _=>rfl
  ·exact lY WO OF FO (m:=λsc ρ=>Mine.Internal.ev call (.Tuple es k q) sc ρ) (λsc ρ=>by rw[ht];rfl) (λX O A sc env ρ hA=>ev _ X O A sc env ρ hA) (λ_ _=>rfl)
    (λhl=>iP h hl)
 case inr.inr.inr.inl=>
  rcases bG1 t with⟨id,c,rfl⟩ | hnm
  ·have hm:∀gens,(λsc ρ=>ex call (.Assign [.Name id c] (.ListComp elt gens csc q) p) sc ρ)=λsc ρ=>aB (Mine.Internal.ev call (.ListComp elt gens csc q) sc ρ) λv=>aB (asg call (.Name id c) v sc ρ) λρ'=>ret (Fl.next,ρ'):=λ_=>rfl
   have bad:∀{gens},(∀sc ρ Y p,Mine.Internal.ev call (.ListComp elt gens csc q) sc ρ Y=some p→False)→c0 w hZ n (λsc ρ=>ex call (.Assign [.Name id c] (.ListComp elt gens csc q) p) sc ρ) (λenv=>exec (.Assign [.Name id c] (.ListComp elt gens csc q) p) env):=by
    intro gens hb;rw[hm];intro X O A sc env s μ Y Y' ρ pp Q hA S f e h;obtain⟨v,Y₁,e1,e2⟩:=aG.mp e;exact(hb _ _ _ _ e1).elim
   have fl:∀{sc:Scope} {ρ:LE} {e:Expr},Mine.Internal.ev call e sc ρ=Mine.Internal.fail→∀{Y p},Mine.Internal.ev call e sc ρ Y=some p→False:=λh Y p q=>by rw[h]at q;exact wK q
   rcases gens with _ | ⟨⟨tgt,iter,ifs,k⟩,_ | ⟨g2,r⟩⟩
   ·exact bad λ_ _ _ _=>fl ao6
   ·by_cases hk:k=0
    ·subst hk;rcases aQ1 (e:=iter)with⟨ks,kk,qq,rfl⟩ | hns
     ·refine bad λsc ρ Y pr h=>?_;rcases ifs with _ | ⟨c1,_ | ⟨c2,r⟩⟩
      ·rw[ao8]at h;obtain⟨_,_,_,h⟩:=aG.mp h;obtain⟨_,_,h,_⟩:=aG.mp h;exact wK h
      ·rw[ao7]at h;obtain⟨_,_,_,h⟩:=aG.mp h;obtain⟨_,_,h,_⟩:=aG.mp h;exact wK h
      ·exact fl u2 h
     ·rcases ifs with _ | ⟨c1,_ | ⟨c2,r⟩⟩
      ·rw[hm];have:=aK3 (p:=p) (q:=c) (id:=id) (pos:=q) (csc:=csc) (tgt:=tgt) (ifs:=[]) (tst:=λ_=>ret true) (ev iter) hns (ev elt) (λA hA X' O' cenv ρ'=>by
        intro E s μ Y Y' b Q S f e h;obtain⟨rfl,rfl⟩:=aM.mp e;exact wpAny_tests_nil (h _ s.toks _ (Stp.same S)))
       simpa only[ao8]using this
      ·rw[hm];have:=aK3 (p:=p) (q:=c) (id:=id) (pos:=q) (csc:=csc) (tgt:=tgt) (ifs:=[c1]) (tst:=λρ'=>zV call c1 csc ρ' (Mine.Internal.ev call c1 csc ρ')) (ev iter) hns (ev elt) (λA hA X' O' cenv ρ'=>by
        intro E s μ Y Y' b Q S f e h;exact wpAny_tests_one (evt c1 _ _ _ _ _ _ _ hA rfl _ _ _ _ _ _ _ S f e h))
       simpa only[ao7]using this
      ·exact bad λ_ _ _ _=>fl u2
    ·exact bad λ_ _ _ _=>fl (aQ2 hk)
   ·exact bad λ_ _ _ _=>fl zU
  ·exact lY WO OF FO (m:=λsc ρ=>Mine.Internal.ev call (.ListComp elt gens csc q) sc ρ) (λsc ρ=>rfl) (λX O A sc env ρ hA=>ev _ X O A sc env ρ hA) (λenv line=>hnm _ _ _ _ env line) (λhl env=>(by
    rcases u9 t with⟨a,b,c,rfl⟩ | ⟨_,h⟩
    ·rfl
    ·exact iP h hl env))
 case inr.inr.inr.inr.inl=>exact bf9 λsc ρ=>hb sc ρ _
 case inr.inr.inr.inr.inr=>exact lY WO OF FO (m:=λsc ρ=>Mine.Internal.ev call value sc ρ) (λsc ρ=>hp.rhs _ sc ρ) (λX O A sc env ρ hA=>ev _ X O A sc env ρ hA) (λenv line=>hp.swap t env line) (λ_ env=>hp.st env)
end
section
variable {w:World}{hZ:Heap}{K:Frag}{call:CT}{n:Nat}{sc:Scope}{ρ:LE}
theorem c0.bad {m:Scope→LE→M (Fl×LE)}{t:Env→Sem Flow}(h:∀sc ρ Y p,m sc ρ Y=some p→False):c0 w hZ n m t:=λ_ _ _ _ _ _ _ _ _ _ _ _ _ _ _ e _=>(h _ _ _ _ e).elim
theorem bx5 (ev:∀e,fQ w hZ call n e)(e:Expr)(p:Pos):c0 w hZ n (λsc ρ=>ex call (.Expr e p) sc ρ) (λenv=>exec (.Expr e p) env):=by
 cases e
 case Call f as ks q=>exact bx4 (ev _)
 all_goals exact c0.fail
theorem bK8 (WO:WOk w hZ K)(ev:∀e,fQ w hZ call n e)(t:Expr)(op:Operator)(e:Expr)(p:Pos):c0 w hZ n (λsc ρ=>ex call (.AugAssign t op e p) sc ρ) (λenv=>exec (.AugAssign t op e p) env):=by
 cases t
 case Name id q=>exact aS1 (ev e)
 case Attribute o x q=>exact aS2 WO (ev o) (ev e)
 all_goals exact c0.fail
theorem bJ7 (ev:∀e,fQ w hZ call n e)(o i:Expr)(q p:Pos):c0 w hZ n (λsc ρ=>ex call (.Delete [.Subscript o i q] p) sc ρ) (λenv=>exec (.Delete [.Subscript o i q] p) env):=by
 cases i
 case Slice lo up st q2=>
  cases lo with
  | none=>exact c0.fail
  | some lo=>cases up with
   | some _=>exact c0.fail
   | none=>cases st with
    | some _=>exact c0.fail
    | none=>exact by6 (ev o) (ev lo)
 all_goals exact aY6 (ev o) (ev _) rfl
theorem bJ6 (ev:∀e,fQ w hZ call n e)(ts:List Expr)(p:Pos):c0 w hZ n (λsc ρ=>ex call (.Delete ts p) sc ρ) (λenv=>exec (.Delete ts p) env):=by
 rcases ts with _ | ⟨t,_ | ⟨t2,r⟩⟩
 ·exact c0.fail
 ·cases t
  case Subscript o i q=>exact bJ7 ev o i q p
  all_goals exact c0.fail
 ·exact c0.fail
theorem bT0 (WO:WOk w hZ K)(OF:l7 call)(FO:p8 w hZ n call):∀N,(∀st:Stmt,sizeOf st < N→c0 w hZ n (λsc ρ=>ex call st sc ρ) (λenv=>exec st env))∧
  (∀l:List Stmt,sizeOf l < N→c0 w hZ n (λsc ρ=>uH call l sc ρ) (λenv=>execs l env)):=by
 have ev:=λe=>bx9 WO OF FO e;have evt:=λe=>bM9 WO OF FO e;intro N
 induction N with
 | zero=>exact⟨λ_ h=>by lia,λ_ h=>by lia⟩
 | succ N ih=>
  refine⟨λst=>?_,λl=>?_⟩
  ·cases st
   case Expr e p=>exact λ_=>bx5 ev e p
   case Return e p=>
    cases e with
    | none=>exact λ_=>c0.fail
    | some e=>exact λ_=>bE7 (ev e)
   case Pass p=>exact λ_=>bt1
   case If t b o p=>
    intro hN;simp at hN;exact bR6 (evt t) (ih.2 b (by lia)) (ih.2 o (by lia))
   case While t b o p=>
    intro hN;simp at hN;cases o with
    | nil=>exact bg4 (evt t) (ih.2 b (by lia))
    | cons _ _=>exact c0.fail
   case For tgt it b o p=>
    intro hN;simp at hN;cases o with
    | nil=>
     rcases aQ1 (e:=it)with⟨ks,k,q,rfl⟩ | hns
     ·refine c0.bad λsc ρ Y pr h=>?_;obtain⟨_,_,h,_⟩:=aG.mp (show(aB (Mine.Internal.ev call (.Set ks k q) sc ρ) λx=>aB (bU x) λxs=>ac0 (still xs (aP x)) (λx ρ=>aB (bL (kP sc tgt x ρ)) λρ'=>uH call b sc ρ') xs ρ) Y=some pr from h);exact wK h
     ·exact bI6 (ev it) hns (ih.2 b (by lia))
    | cons _ _=>exact c0.fail
   case AugAssign t op e p=>exact λ_=>bK8 WO ev t op e p
   case Assign ts value p=>
    rcases ts with _ | ⟨t,_ | ⟨t2,r⟩⟩
    ·exact λ_=>c0.fail
    ·exact λ_=>bo3 WO OF FO t value p
    ·exact λ_=>c0.fail
   case Delete ts p=>exact λ_=>bJ6 ev ts p
   all_goals exact λ_=>c0.fail
  ·cases l with
   | nil=>exact λ_=>bG2
   | cons st r=>
    intro hN;simp at hN;exact bz4 (ih.1 st (by lia)) (ih.2 r (by lia))
end
theorem bn8 (n:Nat):l7 (aD n):=by
 intro i j vs Y p e;cases n with
 | zero=>exact aV e
 | succ n=>
  have e':(aB (bL (aT i j)) λf=>yX (aD n) f vs) Y=some p:=e;obtain⟨f,Y₁,e1,_⟩:=aG.mp e';exact⟨f,(bB.mp e1).1⟩
theorem aR4 {w:World}{hZ:Heap}{K:Frag}(WO:WOk w hZ K):∀n,p8 w hZ n (aD n)
 | 0=>λ_ _ _ _ _ _ _ _ _ _ _ _ _ _ _ e _=>aV e
 | n+1=>by
  intro i j vs us X A s μ Y Y' x R hA S r e h;have e':(aB (bL (aT i j)) λf=>yX (aD n) f vs) Y=some (x,Y'):=e;obtain⟨f,Y₁,e1,e2⟩:=aG.mp e';obtain⟨hf,rfl⟩:=bB.mp e1;exact bS6 WO.lim (WO.fn i j f hf) ((bT0 WO (bn8 n) (aR4 WO n) _).2 f.body (Nat.lt_succ_self _)) hA S r e2 h
theorem br6 {w:World}{K:Frag}{A:Around}{R:Result→Shared→Prop}{s:Shared}{i n m:Nat}{a:Addr}{vs:List Value}{ns:List Int}{Y':H}{b:Bool}(WO:WOk w s.heap K)(hA:AOc n A)
  (low:∃o,s.heap.get? sysModules=some o) (g:s.heap.get? a=some (j9 vs m)) (hv:IntsAre vs ns) (hz:ns.length≤200000) (e:aD n (.fn i 0) [.lst (ns.map .int)] []=some (.bool b,Y'))
  (h:∀h' t',(∀b o,s.heap.get? b=some o→h'.get? b=some o)→R (.ok (.ret (.bool b))) { s with heap:=h',toks:=t' }):codeAny (model prog w) A (.call (.ref (B.fa i 0)) ⟨[.ref a],[]⟩) R s:=by
 have S:Sta (λ_=>False) w s.heap s.heap [] []:=⟨rfl,λn l o e=>by simp at e,λm n l l' _ e=>by simp at e,λ_ _ e=>e,low,λn l e=>by simp at e,λ_ q=>q.elim,λn l e=>by simp at e⟩;have nw:∀b,¬Wr [] [] b:=by rintro b ⟨n,l,o,e,_⟩;simp at e
 refine aR4 WO n i 0 _ [.ref a] (λ_=>False) A s [] [] Y' (.bool b) R hA S ?_ e λv h' t' μ' st rv=>?_
 ·refine bC.cons ?_ rfl;show ∃_,_;exact⟨a,vs,m,rfl,⟨nw a,λq=>q⟩,g,ay9 hv,by simpa using hz⟩
 ·subst rv;exact h h' t' λb o e=>st.keep b o e (nw b)
abbrev Lk:=Addr→Option Obj
abbrev xC (K:Lk)(h:Heap):Prop:=∀a o,K a=some o→h.get? a=some o
def bh6:Value→Option Addr
 | .ref a=>some a
 | _=>none
def bW3:Value→Option Str
 | .str q _=>some q
 | _=>none
def tyN:Value→Option String
 | .type c=>some c
 | _=>none
def bP0:Data→Option (Array Value)
 | .seq a _=>some a
 | _=>none
def by4:Data→Option (Array DictEntry)
 | .dict es _=>some es
 | _=>none
def bM7:Data→Option FuncData
 | .func fd=>some fd
 | _=>none
def be3:Data→Option (Array Value)
 | .fields vs=>some vs
 | _=>none
theorem vG {v:Value}{a:Addr}:bh6 v=some a→v=.ref a:=by
 cases v<;>first | exact λe=>congrArg Value.ref (Option.some.inj e) | exact λe=>nomatch (show none=some a from e)
theorem bq9 {v:Value}{q:Str}:bW3 v=some q→∃t,v=.str q t:=by
 cases v<;>first | exact λe=>⟨_,congrArg (λx=>Value.str x _) (Option.some.inj e)⟩ | exact λe=>nomatch (show none=some q from e)
theorem ba9 {v:Value}{c:String}:tyN v=some c→v=.type c:=by
 cases v<;>first | exact λe=>congrArg Value.type (Option.some.inj e) | exact λe=>nomatch (show none=some c from e)
theorem aL0 {d:Data}{a:Array Value}:bP0 d=some a→∃n,d=.seq a n:=by
 cases d<;>first | exact λe=>⟨_,congrArg (λx=>Data.seq x _) (Option.some.inj e)⟩ | exact λe=>nomatch (show none=some a from e)
theorem aC5 {d:Data}{a:Array DictEntry}:by4 d=some a→∃n,d=.dict a n:=by
 cases d<;>first | exact λe=>⟨_,congrArg (λx=>Data.dict x _) (Option.some.inj e)⟩ | exact λe=>nomatch (show none=some a from e)
theorem bl8 {d:Data}{a:FuncData}:bM7 d=some a→d=.func a:=by
 cases d<;>first | exact λe=>congrArg Data.func (Option.some.inj e) | exact λe=>nomatch (show none=some a from e)
theorem aP9 {d:Data}{a:Array Value}:be3 d=some a→d=.fields a:=by
 cases d<;>first | exact λe=>congrArg Data.fields (Option.some.inj e) | exact λe=>nomatch (show none=some a from e)
theorem mW {α:Type}{o:Option α}{p:α→Bool}(e:o.any p=true):∃a,o=some a∧p a=true:=by
 cases o with
 | none=>exact oN e
 | some a=>exact⟨a,rfl,e⟩
def bp8 (K:Lk)(a:Addr):Option (List Value):=(K a).bind λo=>(tyN o.cls).bind λc=>(bP0 o.data).bind λarr=>
 if c = "tuple"∧o.dict=none∧o.slots.size=0∧arr.size≤1000 then some arr.toList else none
theorem bh0 {K:Lk}{h:Heap}{a:Addr}{vs:List Value}(X:xC K h)(e:bp8 K a=some vs):∃n,h.get? a=some (p9 vs n)∧vs.length≤1000:=by
 obtain⟨o,ho,e1⟩:=zO e;obtain⟨c,hc,e2⟩:=zO e1;obtain⟨arr,hd,e3⟩:=zO e2;clear e e1 e2;obtain⟨n,hd⟩:=aL0 hd;split at e3
 ·rename_i q;obtain⟨rfl,hn,hs,hz⟩:=q;cases e3;refine⟨n,?_,by simpa using hz⟩;have:=X _ _ ho;obtain⟨cl,dd,dt,sl⟩:=o;have hsl:sl=#[]:=Array.eq_empty_of_size_eq_zero hs;rw[show cl=.type "tuple" from ba9 hc,show dd=none from hn,show dt=.seq arr n from hd,hsl]at this;exact this
 ·cases e3
mutual
def az1 (K:Lk):V→Value→Bool
 | .none,v=>v==.none
 | .bool b,v=>v==.bool b
 | .int i,v=>v.isInt i
 | .str s,v=>v.isStr s
 | .tup xs,v=>(bh6 v).any λa=>(bp8 K a).any λvs=>uO K xs vs
 | .fn i j,v=>v==.ref (B.fa i j)
 | .cl i,v=>v==.ref (B.ca i)
 | .bi id,v=>v==.builtin id
 | .ty n,v=>v==.type n
 | _,_=>false
def uO (K:Lk):List V→List Value→Bool
 | [],vs=>vs.isEmpty
 | x::xs,vs=>match vs with
  | v::r=>az1 K x v&&uO K xs r
  | []=>false
end
section
variable {K:Lk}{w:World}{h:Heap}{μ:List Loc}
theorem bw1 {v:Value}{s:Str}(e:v.isStr s=true):∃t,v=.str s t:=by
 cases v<;>simp[Value.isStr]at e;subst e;exact⟨_,rfl⟩
mutual
theorem xM (X:xC K h):∀(x:V) (v:Value),az1 K x v=true→cD w h μ (λ_=>True) x v
 | .none,v,e=>beq_iff_eq.mp (show(v==Value.none)=true from e)
 | .bool b,v,e=>beq_iff_eq.mp (show(v==Value.bool b)=true from e)
 | .int i,v,e=>Value.isInt_shape (show v.isInt i=true from e)
 | .str s,v,e=>bw1 (show v.isStr s=true from e)
 | .tup xs,v,e=>by
  obtain⟨a,ha,e⟩:=mW (show(bh6 v).any (λa=>(bp8 K a).any λvs=>uO K xs vs)=true from e);obtain⟨vs,hv,e⟩:=mW e;obtain⟨n,g,hz⟩:=bh0 X hv;have r:=oY X xs vs e;have hl:=bO r;rw[vG ha];exact⟨a,vs,n,rfl,trivial,g,r,by lia⟩
 | .fn i j,v,e=>beq_iff_eq.mp (show(v==Value.ref (B.fa i j))=true from e)
 | .cl i,v,e=>beq_iff_eq.mp (show(v==Value.ref (B.ca i))=true from e)
 | .bi id,v,e=>beq_iff_eq.mp (show(v==Value.builtin id)=true from e)
 | .ty n,v,e=>beq_iff_eq.mp (show(v==Value.type n)=true from e)
 | .lst _,v,e=>oN e
 | .dct _ _,v,e=>oN e
 | .ref _,v,e=>oN e
 | .rng _,v,e=>oN e
theorem oY (X:xC K h):∀(xs:List V) (vs:List Value),uO K xs vs=true→bC w h μ (λ_=>True) xs vs
 | [],vs,e=>List.isEmpty_iff.mp (show vs.isEmpty=true from e)
 | x::xs,vs,e=>by
  cases vs with
  | nil=>exact oN e
  | cons v r=>
   obtain⟨e1,e2⟩:=zB (show(az1 K x v&&uO K xs r)=true from e);exact⟨v,r,rfl,xM X x v e1,oY X xs r e2⟩
end
end
def bX2:List Stmt:=PySem.Challenge.pw_xm0449_01.main.body
def bw5 (i j:Nat):Bool:=faL.any λe=>e.1==i&&e.2.1==j
def aY8 (i:Nat):Stmt→Bool
 | .FunctionDef ..=>bw5 i 0
 | .ClassDef _ _ _ b _ _ _ _ _ _ _=>b.zipIdx.all λq=>!(lW q.1).isSome||bw5 i (q.2+1)
 | _=>true
theorem bZ6:(bX2.zipIdx.all λq=>aY8 q.2 q.1)=true:=by ext
theorem cd5 {i:Nat}{f:Fn}:∀st:Stmt,lW st=some f→aY8 i st=true→bw5 i 0=true:=by
 intro st;cases st<;>first | exact λ_ c=>c | exact λe=>nomatch (show none=some f from e)
theorem cd4 {i j:Nat}{f:Fn}:∀st:Stmt,(match st with | .ClassDef _ _ _ b _ _ _ _ _ _ _=>(b[j]?).bind lW | _=>none)=some f→aY8 i st=true→
  ∃b:List Stmt,(b[j]?).bind lW=some f∧(b.zipIdx.all λq=>!(lW q.1).isSome||bw5 i (q.2+1))=true:=by
 intro st;cases st<;>first | exact λe c=>⟨_,e,c⟩ | exact λe=>nomatch (show none=some f from e)
theorem bm4 {i j:Nat}{f:Fn}(e:aT i j=some f):bw5 i j=true:=by
 unfold aT at e;obtain⟨st,hs,e⟩:=zO e;have c:=zA bZ6 (st,i) (by rw[List.mem_zipIdx_iff_getElem?];exact hs);cases j with
 | zero=>exact cd5 st e c
 | succ j=>
  obtain⟨b,e,c⟩:=cd4 st e c;obtain⟨q,hq,e⟩:=zO e;have c':=zA c (q,j) (by rw[List.mem_zipIdx_iff_getElem?];exact hq)
  simpa [e]using c'
def aQ0 (K:Lk)(a:Addr):Option FuncData:=(K a).bind λo=>bM7 o.data
def br1 (fd:FuncData):=(fd.scope,fd.body,fd.closure,fd.globals,fd.builtins,fd.params.posonlyargs.length,fd.params.kwonlyargs.length,fd.params.vararg.isNone,fd.params.kwarg.isNone,fd.params.args.map (·.arg))
def br0 (f:Fn):=(f.sc,FuncBody.stmts f.body,([]:List (Str×Addr)),mainGlobals,builtinsNs,0,0,true,true,f.ps)
def ap4 (K:Lk)(fd:FuncData):Option Str:=(bh6 fd.code).bind λc=>(K c).bind λo=>(be3 o.data).bind λvs=>(vs[1]?).bind bW3
def aY5 (K:Lk)(fd:FuncData):Bool:=fd.defaults==.none||(bh6 fd.defaults).any λT=>(K T).any λo=>(bP0 o.data).isSome
theorem bx2 {K:Lk}{h:Heap}{a:Addr}{fd:FuncData}(X:xC K h)(e:aQ0 K a=some fd):∃o,h.get? a=some o∧o.data=.func fd:=by
 obtain⟨o,ho,e⟩:=zO e;exact⟨o,X _ _ ho,bl8 e⟩
theorem aZ1 {K:Lk}{h:Heap}{fd:FuncData}{q:Str}(X:xC K h)(e:ap4 K fd=some q):h.CodeRec fd.code q:=by
 obtain⟨c,hc,e⟩:=zO e;obtain⟨o,ho,e⟩:=zO e;obtain⟨vs,hd,e⟩:=zO e;obtain⟨v,hv,e⟩:=zO e;obtain⟨t,rfl⟩:=bq9 e;exact⟨c,o,vs,t,vG hc,X _ _ ho,aP9 hd,hv⟩
theorem aY4 {K:Lk}{h:Heap}{fd:FuncData}(X:xC K h)(e:aY5 K fd=true):fd.defaults=.none∨∃T o items n,fd.defaults=.ref T∧h.get? T=some o∧o.data=.seq items n:=by
 rcases Bool.or_eq_true_iff.mp e with e | e
 ·exact .inl (beq_iff_eq.mp e)
 ·obtain⟨T,hT,e⟩:=mW e;obtain⟨o,ho,e⟩:=mW e;obtain⟨items,hi⟩:=Option.isSome_iff_exists.mp e;obtain⟨n,hd⟩:=aL0 hi;exact .inr ⟨T,o,items,n,vG hT,X _ _ ho,hd⟩
theorem bY3 {K:Lk}{h:Heap}(X:xC K h)
  (side:(faL.map λe=>(aT e.1 e.2.1).map br0)=faL.map λe=>(aQ0 K e.2.2).map br1)
  (code:(faL.all λe=>((aQ0 K e.2.2).map λfd=>(ap4 K fd).any (Fast.sEq fd.qualname)).getD false)=true)
  (dflt:(faL.all λe=>((aQ0 K e.2.2).map (aY5 K)).getD false)=true)
  (sco:(faL.all λe=>((aT e.1 e.2.1).map λf=>aG2 f.sc).getD false)=true)
  (book:(faL.map λe=>B.fa e.1 e.2.1)=faL.map λe=>e.2.2)
  {i j:Nat} {f:Fn} (e:aT i j=some f):FnAt h i j f:=by
 obtain⟨⟨a,b,c⟩,ht,q⟩:=List.any_eq_true.mp (bm4 e);simp only[Bool.and_eq_true,beq_iff_eq]at q;obtain⟨rfl,rfl⟩:=q;have s1:=List.map_inj_left.mp side _ ht;have s2:=zA code _ ht;have s3:=zA dflt _ ht;have s4:=zA sco _ ht;have s5:=List.map_inj_left.mp book _ ht;simp only[e,Option.map_some,Option.getD_some]at s1 s2 s3 s4 s5;cases hf:aQ0 K c with
 | none=>rw[hf]at s1;cases s1
 | some fd=>
  rw[hf]at s1 s2 s3;simp only[Option.map_some,Option.some.injEq,Option.getD_some]at s1 s2 s3;obtain⟨q,hq,s2⟩:=(by cases hc:ap4 K fd with | none=>rw[hc]at s2;cases s2 | some q=>rw[hc]at s2;exact⟨q,rfl,s2⟩:∃q,ap4 K fd=some q∧Fast.sEq fd.qualname q=true);rw[←Fast.sEq_iff.mp s2]at hq;obtain⟨o,g,d⟩:=bx2 X hf;simp only[br0,br1,Prod.mk.injEq]at s1;obtain⟨t1,t2,t3,t4,t5,t6,t7,t8,t9,t10⟩:=s1;refine⟨⟨o,fd,s5▸g,d,t1.symm,t2.symm,t3.symm,t4.symm,t5.symm,aZ1 X hq,List.eq_nil_of_length_eq_zero t6.symm,List.eq_nil_of_length_eq_zero t7.symm,Option.isNone_iff_eq_none.mp t8.symm,Option.isNone_iff_eq_none.mp t9.symm,t10.symm,aY4 X s3⟩,s4⟩
def am4 (K:Lk):Option (Array DictEntry):=(K mainGlobals).bind λo=>by4 o.data
theorem yE {K:Lk}{h:Heap}{mg:Str→Option Value}{es:Array DictEntry}(X:xC K h)(e:am4 K=some es)(g:h.Ns mainGlobals mg)(x:Str):nsFind es x=mg x:=by
 obtain⟨o,ho,e⟩:=zO e;obtain⟨n,hd⟩:=aC5 e;obtain⟨o',es',ep,g1,g2,_,g4⟩:=g;have e1:=Option.some.inj (g1.symm.trans (X _ _ ho));rw[e1,hd]at g2;cases g2;exact g4 x
def cd3 (K:Lk)(ks vs:List Int)(a:Addr)(o:Obj)(c:String)(es:Array DictEntry):Bool:=
 decide (c = "dict")&&(decide (o.dict=none)&&(decide (o.slots.size=0)&&(!(a==sysModules)&&(uO K (ks.map .int) (es.toList.map (·.key))&&(decide (es.toList.map (·.hash)=ks.map hashInt)&&(uO K (vs.map .int) (es.toList.map (·.val))&&(decide ks.Nodup&&decide (ks.length≤1000))))))))
def by9 (K:Lk)(ks vs:List Int)(u:Value):Bool:=(bh6 u).any λa=>(K a).any λo=>(tyN o.cls).any λc=>(by4 o.data).any λes=>cd3 K ks vs a o c es
theorem zQ (w:World):∀ks:List Int,fA w (ks.map V.int)=ks.map hashInt
 | []=>rfl
 | k::r=>congrArg (hashInt k::·) (zQ w r)
theorem bm9 {K:Lk}{w:World}{h:Heap}{ks vs:List Int}{u:Value}(X:xC K h)(e:by9 K ks vs u=true):cD w h [] (λ_=>True) (.dct (ks.map .int) (vs.map .int)) u:=by
 obtain⟨a,ha,e⟩:=mW e;obtain⟨o,ho,e⟩:=mW e;obtain⟨c,hc,e⟩:=mW e;obtain⟨es,hd,e⟩:=mW e;obtain⟨n,hd⟩:=aC5 hd;obtain⟨q1,e⟩:=zB e;obtain⟨q2,e⟩:=zB e;obtain⟨q3,e⟩:=zB e;obtain⟨e1,e⟩:=zB e;obtain⟨e2,e⟩:=zB e;obtain⟨e3,e⟩:=zB e;obtain⟨e4,e⟩:=zB e;obtain⟨e5,e6⟩:=zB e;have hx:=X _ _ ho;obtain⟨cl,dd,dt,sl⟩:=o;have hsl:sl=#[]:=Array.eq_empty_of_size_eq_zero (zD q3);rw[show cl=.type c from ba9 hc,zD q1,show dd=none from zD q2,show dt=.dict es n from hd,hsl]at hx;rw[vG ha];exact⟨a,es.toList,n,rfl,trivial,(by simpa using e1),hx,oY X _ _ e2,(zD e3).trans (zQ w ks).symm,oY X _ _ e4,List.Pairwise.map _ (λx y q z=>q (by cases z;rfl)) (zD e5),by rw[List.length_map];have:=zD e6;lia⟩
def isB:V→Bool
 | .bi _=>true
 | .ty _=>true
 | _=>false
def gV (K:Lk)(u:Value):V→Bool
 | .dct _ _=>by9 K [3,4,5,6,7,10] [6,5,4,1,2,7] u
 | v=>az1 K v u
theorem bS4 {K:Lk}{u:Value}{v:V}(e:gV K u v=true):(∃ks vs,v=.dct ks vs∧by9 K [3,4,5,6,7,10] [6,5,4,1,2,7] u=true)∨az1 K v u=true:=by
 refine Fl.opq1 v λP hP=>?_;revert e;cases v
 case dct ks vs=>exact λe=>hP _ (.inl ⟨_,_,rfl,e⟩)
 all_goals exact λe=>hP _ (.inr e)
def gOk (K:Lk)(es:Array DictEntry)(q:String×V):Bool:=match Fast.tw16335722595253787840 es (S q.1)with
 | some u=>gV K u q.2
 | none=>isB q.2
def bOk (q:String×V):Bool:=match bootBuiltins (S q.1)with
  | some u=>!(S q.1==S "__name__")&&az1 (λ_=>none) q.2 u
  | none=>false
def dOk (q:String×V):Prop:=∀ks vs,q.2=.dct ks vs→ks=([3,4,5,6,7,10]:List Int).map V.int∧vs=([6,5,4,1,2,7]:List Int).map V.int
def bT6 (q:String×V):Bool:=match q.2 with
 | .dct ks vs=>decide (ks=([3,4,5,6,7,10]:List Int).map V.int)&&decide (vs=([6,5,4,1,2,7]:List Int).map V.int)
 | _=>true
theorem bT5 {q:String×V}(e:bT6 q=true):dOk q:=λks vs h=>by
 unfold bT6 at e;rw[h]at e;obtain⟨a,b⟩:=zB e;exact⟨zD a,zD b⟩
theorem bZ5:G.gtab.all bT6=true:=by ext
theorem bI4 {K:Lk}{w:World}{h:Heap}{mg mb:Str→Option Value}{es:Array DictEntry}(X:xC K h)(g:h.Ns mainGlobals mg)(b:h.Ns builtinsNs mb)(bb:∀x:Str,x≠"__name__"→mb x=bootBuiltins x)
  (he:am4 K=some es) (hg:G.gtab.all (gOk K es)=true) (hb:(G.gtab.all λq=>!isB q.2||bOk q)=true):GlobOk w h:=by
 refine⟨⟨mg,mb,g,b,λx v e=>?_⟩⟩;unfold G at e;obtain⟨q,hq,rfl⟩:=Option.map_eq_some_iff.mp e;have hx:S q.1=x:=by simpa using List.find?_some hq
 subst hx;have hm:=List.mem_of_find?_eq_some hq;have ok:=zA hg _ hm;have d:dOk q:=bT5 (zA bZ5 _ hm);unfold gOk at ok;rw[←Fast.te16335722595253787840]at ok;split at ok
 ·rename_i u hu;refine⟨u,?_,.inl ((yE X he g _).symm.trans hu)⟩;rcases bS4 ok with⟨ks,vs,hv,ok⟩ | ok
  ·obtain⟨rfl,rfl⟩:=d ks vs hv;rw[hv];exact bm9 X ok
  ·exact xM X _ _ ok
 ·rename_i hn;have hq:=zA hb _ hm;simp only[ok,Bool.not_true,Bool.false_or]at hq;unfold bOk at hq;split at hq
  ·rename_i u hu;simp only[Bool.and_eq_true,Bool.not_eq_true',beq_eq_false_iff_ne,ne_eq]at hq;exact⟨u,xM (K:=λ_=>none) (λ_ _ e=>nomatch e) _ _ hq.2,.inr ⟨(yE X he g _).symm.trans hn,(bb _ hq.1).trans hu⟩⟩
  ·cases hq
def aG8 (c:Nat):List (Str×Nat):=(S "__init__",1) ::
 (if c=7 then[(S "put",2)]else if c=58 then[(S "put",3)]else if c=90 then[(S "force",2)]else if c=110 then[(S "ask",2),(S "note",3),(S "mark",5),(S "back",6)]else[])
theorem ifc {x s:Str}{a j:Nat}{r:Option Nat}{L:List (Str×Nat)}(h:(if x=s then some a else r)=some j)(k:r=some j→(x,j)∈L):(x,j)∈(s,a)::L:=by
 by_cases q:x=s
 ·rw[if_pos q]at h;rw[q,←Option.some.inj h];exact .head _
 ·rw[if_neg q]at h;exact .tail _ (k h)
theorem aW0 {c:Nat}{x:Str}{j:Nat}(e:rJ c x=some j):(x,j)∈aG8 c:=by
 unfold rJ at e;unfold aG8;by_cases h7:c=7
 ·rw[if_pos h7]at e ⊢;exact .tail _ (ifc e aV)
 rw[if_neg h7]at e ⊢;by_cases h58:c=58
 ·rw[if_pos h58]at e ⊢;exact .tail _ (ifc e aV)
 rw[if_neg h58]at e ⊢;by_cases h90:c=90
 ·rw[if_pos h90]at e ⊢;exact .tail _ (ifc e aV)
 rw[if_neg h90]at e ⊢;by_cases h110:c=110
 ·rw[if_pos h110]at e ⊢;exact .tail _ (ifc e λe=>ifc e λe=>ifc e λe=>ifc e aV)
 rw[if_neg h110]at e ⊢;exact aV e
def bT8 (K:Frag)(c:Nat):=(findIn K (.ref (B.ca c)) "__getattribute__",findIn K (.ref (B.ca c)) "__getattr__",findIn K (.ref (B.ca c)) "__setattr__",
 plainOver K (B.ca c),hasDictIn K (B.ca c),makesIn K (B.ca c),keepIn K (.ref (B.ca c)),
 oO.map (λx=>findIn K (.ref (B.ca c)) x),(aG8 c).map λq=>(findIn K (.ref (B.ca c)) q.1,typeIn K (.ref (B.fa c q.2))))
def bT9 (c:Nat):=(some (some (Value.builtin "object.__getattribute__")),some (none:Option Value),some (some (Value.builtin "object.__setattr__")),
 true,true,true,true,oO.map (λ_=>some (none:Option Value)),(aG8 c).map λq=>(some (some (Value.ref (B.fa c q.2))),some (Value.type "function")))
theorem bT7 {K:Frag}(e:w5.map (bT8 K)=w5.map (bT9)):∀c∈w5,ClsOk K c:=by
 intro c hc;have s:=List.map_inj_left.mp e _ hc;unfold bT8 bT9 at s;simp only[Prod.mk.injEq]at s;obtain⟨s1,s2,s3,s4,s5,s6,s7,s8,s9⟩:=s;have m:=List.map_inj_left.mp s9;have i:=m _ (zS);simp only[Prod.mk.injEq]at i;refine⟨s1,s2,s3,s4,s5,s6,s7,i,λx hx=>?_,λx j hj=>?_⟩
 ·exact List.map_inj_left.mp s8 x (by simpa using hx)
 ·have:=m _ (aW0 hj)
  simp only[Prod.mk.injEq]at this;exact this
def nxT (stp:SharedT→Thread→Option (SharedT×Thread))(ih:SharedT→Thread→Option SharedT)(s:SharedT)(t:Thread):Option SharedT:=match stp s t with
 | some (s',t')=>ih s' t'
 | none=>none
def gtT (t:Thread):Bool:=Nat.beq (Nat.mod (Nat.shiftRight 14192 t.cur.ctorIdx) 2) 1
def br7 (stp:SharedT→Thread→Option (SharedT×Thread))(ok:Thread→Bool)(n:Nat):SharedT→Thread→Option SharedT:=
 @Nat.rec (λ_=>SharedT→Thread→Option SharedT) (λ_ _=>none)
  (λ_ ih s t=>match gtT t with
   | true=>nxT stp ih s t
   | false=>match through t with
    | true=>some s
    | false=>match ok t with
     | false=>none
     | true=>nxT stp ih s t) n
theorem bS1 {n₀:Nat}{ann:Option Value}{t:Thread}(h:gtT t=true):through t=false∧stepOk n₀ ann t=true:=by
 obtain⟨c,d,p,k⟩:=t;cases c<;>first | exact⟨Bool.and_false _,rfl⟩ | exact absurd h (Bool.eq_false_iff.mp (by ext))
theorem ay7 {tb:String→Option Builtin}{p:Program}{w:World}{n₀:Nat}{ann:Option Value}{s':SharedT}:∀(n:Nat) (s:SharedT) (t:Thread),
  br7 (stepT (denote tb) p w) (stepOk n₀ ann) n s t=some s'→topRun tb p w n₀ ann n s.abs t=some s'.abs
 | 0,_,_,h=>by cases h
 | n+1,s,t,h=>by
  have hx:nxT (stepT (denote tb) p w) (br7 (stepT (denote tb) p w) (stepOk n₀ ann) n) s t=some s'→(match step (denote tb) p w s.abs t with
    | .go s' t'=>topRun tb p w n₀ ann n s' t'
    | .halt _ _=>none)=some s'.abs:=λh=>by
   unfold nxT at h;cases hs:stepT (denote tb) p w s t with
   | none=>rw[hs]at h;cases h
   | some r=>obtain⟨s₂,t₂⟩:=r;rw[hs]at h;rw[stepT_spec hs];exact ay7 n s₂ t₂ h
  unfold topRun;change (match gtT t with
   | true=>nxT (stepT (denote tb) p w) (br7 (stepT (denote tb) p w) (stepOk n₀ ann) n) s t
   | false=>match through t with
    | true=>some s
    | false=>match stepOk n₀ ann t with
     | false=>none
     | true=>nxT (stepT (denote tb) p w) (br7 (stepT (denote tb) p w) (stepOk n₀ ann) n) s t)=some s' at h
  cases hg:gtT t with
  | true=>have q:=bS1 (n₀:=n₀) (ann:=ann) hg;rw[hg]at h;rw[q.1,q.2];exact hx h
  | false=>
   rw[hg]at h;cases he:through t with
   | true=>rw[he]at h;cases h;rfl
   | false=>
    rw[he]at h;cases hk:stepOk n₀ ann t with
    | false=>rw[hk]at h;cases h
    | true=>rw[hk]at h;exact hx h
def mkT (l:List Obj):Nat→Nat→Nat→BT
 | 0,_,_=>.nil
 | f+1,a,b=>match l[b]? with
  | some o=>.node o (mkT l f (2 * a) (a+b)) (mkT l f (2 * a) (2 * a+b))
  | none=>.nil
theorem aG7 (l:List Obj):∀(f a b i:Nat),0 < a→l.length≤b+f→(mkT l f a b).get i=l[a * i+b]?
 | 0,a,b,i,ha,hl=>by rw[List.getElem?_eq_none (by lia)];rfl
 | f+1,a,b,i,ha,hl=>by
  unfold mkT;cases e:l[b]? with
  | none=>
   have:=List.getElem?_eq_none_iff.mp e;rw[List.getElem?_eq_none (by lia)];rfl
  | some o=>
   dsimp only;rw[BT.get_node];by_cases h0:i=0
   ·subst h0;rw[if_pos rfl,Nat.mul_zero,Nat.zero_add,e]
   ·rw[if_neg h0];by_cases h1:i % 2=1
    ·rw[if_pos h1,aG7 l f _ _ _ (by lia) (by lia)];obtain⟨k,rfl⟩:∃k,i=2 * k+1:=⟨i / 2,by lia⟩;rw[show(2 * k+1) / 2=k by lia,show 2 * a * k+(a+b)=a * (2 * k+1)+b by rw[Nat.mul_add,Nat.mul_one,←Nat.mul_assoc,Nat.mul_comm a 2];lia]
    ·rw[if_neg h1,aG7 l f _ _ _ (by lia) (by lia)];obtain⟨k,rfl⟩:∃k,i=2 * k+2:=⟨i / 2 - 1,by lia⟩;rw[show(2 * k+2) / 2 - 1=k by lia,show 2 * a * k+(2 * a+b)=a * (2 * k+2)+b by rw[Nat.mul_add,←Nat.mul_assoc,Nat.mul_comm a 2];lia]
def ae1 (H:Heap):BT:=mkT H.objs.toList H.objs.size 1 0
theorem ba5 (H:Heap):absHeap (ae1 H) H.objs.size H.life=H:=by
 obtain⟨⟨l⟩,life⟩:=H;show Heap.mk _ _=Heap.mk _ _;congr 1;apply Array.ext_getElem?;intro i;have:=absHeap_at (ae1 ⟨⟨l⟩,life⟩) l.length life i;unfold ae1 at this;rw[aG7 _ _ _ _ _ (by lia) (by simp)]at this;refine this.trans ?_;rw[Nat.one_mul,Nat.add_zero];by_cases h:i < l.length
 ·rw[if_pos h];simp[h]
 ·rw[if_neg h];simp[Nat.le_of_not_lt h]
abbrev bW4 (p:Program)(w:World):SharedT→Thread→Option (SharedT×Thread):=Fast.tw10156331382660048174 (Fast.tw11892475500146522536 Fast.tw14364793385576792824) p w
theorem bE3 (p:Program)(w:World):stepT (denote treeTable) p w=bW4 p w:=by
 rw[Fast.te10156331382660048174,Fast.te11892475500146522536,Fast.te14364793385576792824]
def bD9 (p:Program)(w:World)(os:OsState)(N:Nat):Option SharedT:=
 br7 (bW4 p w) (Fast.tw6613529449190102663 (boot_heap w.params).objs.size ((boot_heap w.params).nsMap mainGlobals "__annotations__")) N ⟨ae1 (boot_heap w.params),(boot_heap w.params).objs.size,(boot_heap w.params).life,#[],boot_drawn,boot_toks,os⟩ (topStub p)
def bI2 (l:List Str)(k:Str):Bool:=R.anyR l λx=>Fast.sEq k x
theorem bI1 (l:List Str)(k:Str):bI2 l k=l.contains k:=by
 unfold bI2;rw[←R.anyR_eq,Bool.eq_iff_iff,List.any_eq_true,List.contains_iff_mem];exact⟨λ⟨x,m,e⟩=>Fast.sEq_iff.mp e▸m,λm=>⟨k,m,Fast.sEq_iff.mpr rfl⟩⟩
def aV8 (p:Program)(h:Heap):Bool:=h.isNs mainGlobals&&R.allR (h.nsKeys mainGlobals) λk=>bI2 startupNames k||bI2 p.boundNames k
theorem bj0 (p:Program)(h:Heap):aV8 p h=namesBound p h:=by
 unfold aV8 namesBound;rw[←R.allR_eq];simp only[bI1]
def bq1 (p:Program)(H:Heap)(s:Shared):Bool:=H.isNs mainGlobals&&(staticsOk (importedModules p.main.body) H s.heap&&aV8 p s.heap&&gensDone s&&laidKept H s.heap)
def tg (s:SharedT):Lk:=λa=>match Nat.blt a s.n with
 | true=>(match s.tree.get a with
  | some o=>alive o
  | none=>none)
 | false=>none
theorem bW1 (s:SharedT):xC (tg s) s.abs.heap:=λa o e=>by
 unfold tg at e;split at e
 ·rename_i hb;split at e
  ·rename_i o' g;exact(abs_get (Nat.le_of_ble_eq_true hb) g).trans e
  ·cases e
 ·cases e
theorem bG7 {p q:Program}{loose:List Str}{Xt:Shared→Bool}{β:Type}{obs:SharedT→β}{val:β}{Yf:Shared→Prop}{N:Nat}(row:String)
  (e:opening p=plainProg p.main.scope.names) (hN:Nat.ble 600 N=true) (f:∀s,fenceModules? p s=some s) (hY0:∀s:SharedT,obs s=val→Yf s.abs)
  (h1:∀(b:Bool) (w:World) (os:OsState),(bD9 p (w.withFollow row b) os N).map (λs=>(bq1 p (boot_heap (w.withFollow row b).params) s.abs,Fast.tw4187177175401517315 q loose (importedModules p.main.body) Xt true s.abs))=some (true,openGood q loose))
  (h3:∀(b:Bool) (w:World) (os:OsState),(bD9 p (w.withFollow row b) os N).map obs=some val):LeftO p q loose Xt Yf (λ_=>True) N:=by
 intro w;refine(?_:∀b,(openEnds treeTable p (w.withFollow row b) N).map (λs=>(openSeen q loose (importedModules p.main.body) Xt true s,Yf s))=some (openGood q loose,True)) (w.params.followText row) |> λg=>by rwa [World.withFollow_self]at g
 intro b;obtain⟨s₀,hs,hv⟩:=Option.map_eq_some_iff.mp (boot_open e hN f (w.withFollow row b));obtain⟨H,g,d,k,os⟩:=s₀;simp only[Prod.mk.injEq]at hv;obtain⟨rfl,rfl,rfl,rfl⟩:=hv;obtain⟨s,hr,hz⟩:=Option.map_eq_some_iff.mp (h1 b w os);simp only[Prod.mk.injEq]at hz;obtain⟨z2,z3⟩:=hz;have z4:=h3 b w os;rw[hr]at z4;replace z4:=Option.some.inj z4;unfold bq1 at z2;rw[bj0]at z2;obtain⟨z1,zz⟩:=zB z2;unfold bD9 at hr;rw[←bE3,←Fast.te6613529449190102663]at hr;have R:=ay7 _ _ _ hr;rw[show SharedT.abs ⟨ae1 (boot_heap (w.withFollow row b).params),(boot_heap (w.withFollow row b).params).objs.size,(boot_heap (w.withFollow row b).params).life,#[],boot_drawn,boot_toks,os⟩=(⟨boot_heap (w.withFollow row b).params,#[],boot_drawn,boot_toks,os⟩:Shared)from congrArg (λx=>Shared.mk x _ _ _ _) (ba5 _)]at R;unfold openEnds;rw[hs];show(topFrom treeTable p (w.withFollow row b) N _).map _=_;unfold topFrom;rw[z1];show((topRun _ _ _ _ _ _ _ _).bind _).map _=_;rw[R];show(match _ with | true=>some s.abs | false=>none:Option Shared).map _=_;rw[zz];rw[←Fast.te4187177175401517315]at z3;show some (_,_)=some _;rw[z3,eq_true (hY0 s z4)]
def pV:Program:=PySem.Challenge.pw_xm0449_01
def qV:Program:={ pV with main:={ pV.main with body:=(pV.main.body.drop 154).take 1 } }
def asC:List Addr:=List.range 600
def be2 (K:Lk):Frag:=asC.filterMap λa=>(K a).map λo=>(a,o)
theorem bx0 {K:Lk}{h:Heap}(X:xC K h):(be2 K).In h:=λa o e=>by
 unfold be2 at e;have m:∀(l:Frag),l.lookup a=some o→(a,o)∈l:=λl=>by
  induction l with
  | nil=>intro e;cases e
  | cons x r ih=>
   intro e;rw[List.lookup_cons]at e;split at e
   ·rename_i q;cases e;rw[beq_iff_eq.mp q];exact .head _
   ·exact .tail _ (ih e)
 obtain⟨b,_,hb⟩:=List.mem_filterMap.mp (m _ e);obtain⟨o',ho,e'⟩:=Option.map_eq_some_iff.mp hb;cases e';exact X _ _ ho
def bt5 (K:Lk):=((faL.map λe=>(aQ0 K e.2.2).map br1),
 (faL.all λe=>((aQ0 K e.2.2).map λfd=>(ap4 K fd).any (Fast.sEq fd.qualname)).getD false),
 (faL.all λe=>((aQ0 K e.2.2).map (aY5 K)).getD false),
 ((am4 K).map λes=>(G.gtab.all (gOk K es),Fast.tw16335722595253787840 es (Str.ofString "law"))),
 w5.map (bT8 (be2 K)))
def bD4:=((faL.map λe=>(aT e.1 e.2.1).map br0),true,true,some (true,some (Value.ref 856)),w5.map (bT9))
def XtV (s:Shared):Bool:=xlAt qV [] s&&recOk [] s
abbrev bO1 {β:Type}(f:World→SharedT→β)(v:β)(b:Bool):Prop:=∀(w:World) (os:OsState),(bD9 pV (w.withFollow "special-get-raises" b) os 11532).map (f (w.withFollow "special-get-raises" b))=some v
abbrev la:Bool→Prop:=bO1 (λw s=>(bq1 pV (boot_heap w.params) s.abs,Fast.tw4187177175401517315 qV pV.boundNames (importedModules pV.main.body) XtV true s.abs)) (true,openGood qV pV.boundNames)
abbrev lc:Bool→Prop:=bO1 (λ_ s=>bt5 (tg s)) bD4
theorem cc2:la false:=λw os=>by ext
theorem cc1:la true:=λw os=>by ext
theorem cc0:lc false:=λw os=>by ext
theorem cb9:lc true:=λw os=>by ext
abbrev rV:=PySem.Challenge.rw_xm0449_01
theorem tabs:rV.row.prog.tablesWhole=true:=by nofun
theorem bP2:Fast.tw12908688711261696721 (Fast.tw2368527892694137696 rV).prog=true:=by
 delta Fast.tw12908688711261696721
 iterate 5 (refine look_both ?_ (by nofun))
 nofun
theorem bP1:Fast.tw2436336058641802641 (Fast.tw2368527892694137696 rV)=true:=by
 delta Fast.tw2436336058641802641
 iterate 13 (refine look_both ?_ (by ext))
 exact bP2
theorem bW7:Fast.tw17960256430627541270 (Fast.tw2368527892694137696 rV)=true:=by
 delta Fast.tw17960256430627541270
 iterate 2 (refine look_both ?_ (by ext))
 exact bP1
theorem ce4:OpenLaw.wellSaid rV=true:=by
 rw[Fast.te9446332074065402090]
 delta Fast.tw9446332074065402090
 iterate 18 (refine look_both ?_ (by ext))
 exact bW7
end Mine.Internal
namespace Mine.Internal.Pl
open PySem
section
variable {α β γ:Type}
theorem aC (m:M α)(f:α→M β)(g:β→M γ):aB (aB m f) g=aB m λa=>aB (f a) g:=by
 funext Y;simp only[aB];cases m Y<;>rfl
theorem cM (a:α)(f:α→M β):aB (ret a) f=f a:=rfl
theorem gA (m:M α):aB m ret=m:=by funext Y;simp only[aB,ret];cases m Y<;>rfl
theorem bx3 (f:α→M β):aB fail f=fail:=rfl
theorem sH (c:Prop) [Decidable c] (a b:M α)(f:α→M β):aB (if c then a else b) f=if c then aB a f else aB b f:=by split<;>rfl
def aQ (o:Option α)(k:α→M β):M β:=match o with | some v=>k v | Option.none=>fail
theorem sC (o:Option α)(k:α→M β):aQ o k=aB (bL o) k:=by cases o<;>rfl
def eD (vs:List V)(k:V→List V→M β):M β:=match vs with | v::vs=>k v vs | []=>fail
def yB (vs:List V)(k:M β):M β:=match vs with | []=>k | _=>fail
def xD (v:V)(k:List V→M β):M β:=match v with | .tup vs=>k vs | _=>fail
def aD4:List Str→List V→LE→(LE→M β)→M β
 | [],vs,ρ,k=>yB vs (k ρ)
 | x::xs,vs,ρ,k=>eD vs λv vs=>aD4 xs vs (upd ρ x v) k
theorem aq3 (k:LE→M β):∀(xs:List Str) (vs:List V) (ρ:LE),aD4 xs vs ρ k=aQ (cZ xs vs ρ) k
 | [],[],_=>rfl
 | [],_::_,_=>rfl
 | _::_,[],_=>rfl
 | x::xs,v::vs,ρ=>aq3 k xs vs (upd ρ x v)
def aK0 (sc:Scope)(t:Expr)(v:V)(ρ:LE)(k:LE→M β):M β:=match t with
 | .Name x _=>if fG sc x then k (upd ρ x v)else fail
 | .Tuple es _ _=>xD v λvs=>aQ (iQ es) λxs=>if xs.all (fG sc)then aD4 xs vs ρ k else fail
 | _=>fail
theorem bQ1 (b:Bool)(ρ':LE)(k:LE→M β):(if b then k ρ' else fail)=aB (bL (if b then some ρ' else none)) k:=by cases b<;>rfl
theorem bD7 (sc:Scope)(vs:List V)(ρ:LE)(k:LE→M β)(o:Option (List Str)):(aQ o λxs=>if xs.all (fG sc)then aD4 xs vs ρ k else fail)=aB (bL (o.bind λxs=>if xs.all (fG sc)then cZ xs vs ρ else none)) k:=by
 cases o with
 | none=>rfl
 | some xs=>
  show(if xs.all (fG sc)then aD4 xs vs ρ k else fail)=aB (bL (if xs.all (fG sc)then cZ xs vs ρ else none)) k;cases xs.all (fG sc)with
  | true=>exact(aq3 k xs vs ρ).trans (sC _ _)
  | false=>rfl
theorem ac4 (sc:Scope)(t:Expr)(v:V)(ρ:LE)(k:LE→M β):aK0 sc t v ρ k=aB (bL (kP sc t v ρ)) k:=by
 cases t
 case Name x p=>exact bQ1 _ _ _
 case Tuple es q p=>
  cases v
  case tup vs=>exact bD7 sc vs ρ k (iQ es)
  all_goals rfl
 all_goals rfl
end
def b9 {α:Type}(w:M Unit)(f:V→LE→(LE→M α)→M α):List V→LE→(LE→M α)→M α
 | [],ρ,k=>aB w λ_=>k ρ
 | x::r,ρ,k=>aB w λ_=>f x ρ λρ'=>b9 w f r ρ' k
def oR {α:Type}(c:LE→M Bool)(f:LE→(LE→M α)→M α):Nat→LE→(LE→M α)→M α
 | 0,_,_=>fail
 | n+1,ρ,k=>aB (c ρ) λb=>if b then f ρ λρ'=>oR c f n ρ' k else k ρ
def tE (k:LE→M V)(p:Fl×LE):M V:=match p.1 with
 | .next=>k p.2
 | .ret v=>ret v
section
variable (call:CT)
def cI (fz:Bool)(v:V){α:Type}(k:V→M α):M α:=match fz with
 | true=>aB (aA v) k
 | false=>k v
theorem bI5 (fz:Bool)(v:V){α:Type}(k:V→M α):cI fz v k=aB (if fz then aA v else ret v) k:=by cases fz<;>rfl
inductive An where
 | v | b | o
abbrev An.T:An→Type
 | .v=>V | .b=>Bool | .o=>Option V
abbrev KM:=(α:An)→(V→M α.T)→M α.T
def ac2 {α:An}(fz:Bool):List KM→(List V→M α.T)→M α.T
 | [],k=>k []
 | m::r,k=>m α λv=>cI fz v λv=>ac2 fz r λvs=>k (v::vs)
def bf5 (op:BoolOp):List KM→M V
 | []=>fail
 | [m]=>m .v ret
 | m::r=>m .v λv=>aB (aS v) λt=>if(op=.And)=(t=true)then bf5 op r else ret v
def u4 (a:V):List CmpOp→List KM→M Bool
 | [op],[m]=>m .b λb=>aK op a b
 | op::op'::ops,m::m'::r=>m .b λb=>aB (aK op a b) λc=>if c then u4 b (op'::ops) (m'::r)else ret false
 | _,_=>fail
def uP {α:An}:List (Option KM)→List KM→(List (V×V)→M α.T)→M α.T
 | [],[],k=>k []
 | some kk::ks,v::vs,k=>kk α λa=>v α λb=>uP ks vs λr=>k ((a,b)::r)
 | _,_,_=>fail
mutual
def kE:Expr→Scope→LE→KM
 | .Constant c _ _,_,_=>λ_ k=>match c with
  | .none=>k .none
  | .bool b=>k (.bool b)
  | .int i=>k (.int i)
  | .str s=>k (.str s)
  | _=>fail
 | .Name x _,sc,ρ=>λ_ k=>match sc.names.lookup x with
  | some .local=>aQ (ρ x) k
  | some .cell=>aQ (ρ x) k
  | some .free=>aQ (ρ x) k
  | some .globalImplicit=>aQ (G x) k
  | _=>fail
 | .BoolOp op vs _,sc,ρ=>λ_ k=>aB (bf5 op (yF vs sc ρ)) k
 | .BinOp l op r _,sc,ρ=>λα k=>kE l sc ρ α λa=>kE r sc ρ α λb=>aB (i8 op a b) k
 | .UnaryOp .Not x _,sc,ρ=>λ_ k=>aB (kE x sc ρ .b aS) λb=>k (.bool !b)
 | .UnaryOp .USub x _,sc,ρ=>λα k=>kE x sc ρ α λv=>aQ (cA v) λi=>k (.int (-i))
 | .IfExp t b o _,sc,ρ=>λ_ k=>aB (aB (kC t sc ρ (kE t sc ρ .b aS)) λc=>if c then kE b sc ρ .v ret else kE o sc ρ .v ret) k
 | .Dict [] [] _,_,_=>λ_ k=>aB (bN (.dict [])) k
 | .Dict ks vs _,sc,ρ=>λα k=>uP (aW7 ks sc ρ) (yF vs sc ρ) λkv=>
   if(kv.map (·.1)).Nodup∧kv.all (λe=>kS e.1)=true∧kv.length≤15 then k (.dct (kv.map (·.1)) (kv.map (·.2)))else fail
 | .List es _,sc,ρ=>λα k=>if es.length≤1000 then ac2 true (yF es sc ρ) λvs=>k (.lst vs)else fail
 | .Tuple es _ _,sc,ρ=>λα k=>if es.length≤1000 then ac2 true (yF es sc ρ) λvs=>k (.tup vs)else fail
 | .ListComp elt [⟨tgt,iter,[],0⟩] csc _,sc,ρ=>λα k=>
   if okC sc csc then kE iter sc ρ α λit=>aB (c8 it) λxs=>aB (bK (still xs (aP it)) (λx=>aK0 csc tgt x (pI csc ρ) λρ'=>kE elt csc ρ' .o λy=>ret (some y)) xs) λys=>k (.lst ys)
   else fail
 | .ListComp elt [⟨tgt,iter,[c],0⟩] csc _,sc,ρ=>λα k=>
   if okC sc csc then kE iter sc ρ α λit=>aB (c8 it) λxs=>aB (bK (still xs (aP it)) (λx=>aK0 csc tgt x (pI csc ρ) λρ'=>
    aB (kC c csc ρ' (kE c csc ρ' .b aS)) λb=>if b then kE elt csc ρ' .o λy=>ret (some y)else ret Option.none) xs) λys=>k (.lst ys)
   else fail
 | .Compare l ops rs _,sc,ρ=>λ_ k=>if lastMarks ops rs then fail else aB (kE l sc ρ .b λa=>u4 a ops (yF rs sc ρ)) λb=>k (.bool b)
 | .Call (.Attribute o x ap) args [] p,sc,ρ=>λα k=>if pP o&&yQ ap p args then kE o sc ρ α λov=>aB (bF x ov) λmk=>ac2 (cG mk) (yF args sc ρ) λvs=>aB (bD call mk x ov vs) k else fail
 | .Call (.Name f p) args [] _,sc,ρ=>λα k=>kE (.Name f p) sc ρ α λfv=>ac2 (bw3 fv) (yF args sc ρ) λvs=>aB (aR3 call fv vs) k
 | .Attribute o x _,sc,ρ=>λα k=>if pP o then kE o sc ρ α λov=>aB (aR x ov) k else fail
 | .Subscript o (.Slice (some lo) Option.none Option.none _) _,sc,ρ=>λα k=>kE o sc ρ α λov=>kE lo sc ρ α λl=>aQ (cA l) λl=>aB (fY l ov) k
 | .Subscript o (.Slice Option.none (some hi) Option.none _) _,sc,ρ=>λα k=>kE o sc ρ α λov=>kE hi sc ρ α λh=>aQ (cA h) λh=>aB (iA h ov) k
 | .Subscript o (.Name x p) _,sc,ρ=>λα k=>kE o sc ρ α λov=>kE (.Name x p) sc ρ α λi=>aB (aJ i ov) k
 | .Subscript o (.Constant c q p) _,sc,ρ=>λα k=>kE o sc ρ α λov=>kE (.Constant c q p) sc ρ α λi=>aB (aJ i ov) k
 | .Subscript o (.UnaryOp op x p) _,sc,ρ=>λα k=>kE o sc ρ α λov=>kE (.UnaryOp op x p) sc ρ α λi=>aB (aJ i ov) k
 | .Subscript o (.BinOp l op r p) _,sc,ρ=>λα k=>kE o sc ρ α λov=>kE (.BinOp l op r p) sc ρ α λi=>aB (aJ i ov) k
 | .Subscript o (.Subscript a i p) _,sc,ρ=>λα k=>kE o sc ρ α λov=>kE (.Subscript a i p) sc ρ α λi=>aB (aJ i ov) k
 | e,sc,ρ=>λ_ k=>aB (ev call e sc ρ) k
def kC:Expr→Scope→LE→M Bool→M Bool
 | .UnaryOp .Not x _,sc,ρ,_=>aB (kC x sc ρ (kE x sc ρ .b aS)) λb=>ret !b
 | .BoolOp op vs _,sc,ρ,_=>kCs op vs sc ρ
 | .IfExp t b o _,sc,ρ,_=>aB (kC t sc ρ (kE t sc ρ .b aS)) λc=>if c then kC b sc ρ (kE b sc ρ .b aS)else kC o sc ρ (kE o sc ρ .b aS)
 | .Compare l ops rs _,sc,ρ,_=>if lastMarks ops rs then fail else kE l sc ρ .b λa=>u4 a ops (yF rs sc ρ)
 | _,_,_,whole=>whole
def kCs:BoolOp→List Expr→Scope→LE→M Bool
 | op,[],_,_=>ret (decide (op=.And))
 | op,e::r,sc,ρ=>aB (kC e sc ρ (kE e sc ρ .b aS)) λt=>if(op=.And)=(t=true)then kCs op r sc ρ else ret t
def yF:List Expr→Scope→LE→List KM
 | [],_,_=>[]
 | e::r,sc,ρ=>kE e sc ρ::yF r sc ρ
def kEO:Option Expr→Scope→LE→Option KM
 | Option.none,_,_=>Option.none
 | some e,sc,ρ=>some (kE e sc ρ)
def aW7:List (Option Expr)→Scope→LE→List (Option KM)
 | [],_,_=>[]
 | e::r,sc,ρ=>kEO e sc ρ::aW7 r sc ρ
end
end
section
variable {call:CT}
def EqE (call:CT)(e:Expr):Prop:=∀sc ρ α k,kE call e sc ρ α k=aB (ev call e sc ρ) k
def EqC (call:CT)(e:Expr):Prop:=∀sc ρ,kC call e sc ρ (kE call e sc ρ .b aS)=zV call e sc ρ (ev call e sc ρ)
theorem aX {α β:Type}{m m':M α}{f g:α→M β}(h:m=m')(h2:∀a,f a=g a):aB m f=aB m' g:=by rw[h,funext h2]
theorem bJ8 {α:Type}(b:Bool)(f:Unit→M α):aB (dD b) f=if b then f ()else fail:=by cases b<;>rfl
theorem aR2 {α:Type}(b:Bool)(f:Unit→M α):aB (dD (!b)) f=if b then fail else f ():=by cases b<;>rfl
theorem bg0 (fz:Bool){α:An}{sc ρ}:∀(es:List Expr) (k:List V→M α.T),(∀e∈es,EqE call e)→ac2 fz (yF call es sc ρ) k=aB (j0 fz (kG call es sc ρ)) k:=by
 intro ll
 induction ll with
 | nil=>
  intro k _;exact rfl
 | cons e r ih=>
  intro k h;show kE call e sc ρ α (λv=>cI fz v λv=>ac2 fz (yF call r sc ρ) λvs=>k (v::vs))=aB (aB (ev call e sc ρ) λv=>aB (if fz then aA v else ret v) λv=>aB (j0 fz (kG call r sc ρ)) λvs=>ret (v::vs)) k;rw[h e zS,aC];refine aX rfl λv=>?_;rw[bI5,aC];refine aX rfl λv=>?_;rw[ih _ λe' he=>h e' (zC _ he),aC];rfl
theorem aR9 (op:BoolOp){sc ρ}:∀(es:List Expr),(∀e∈es,EqE call e)→bf5 op (yF call es sc ρ)=aq1 op (kG call es sc ρ)
 | [],_=>rfl
 | [e],h=>by
  show kE call e sc ρ .v ret=ev call e sc ρ;rw[h e zS,gA]
 | e::e2::r,h=>by
  show kE call e sc ρ .v (λv=>aB (aS v) λt=>if(op=.And)=(t=true)then bf5 op (yF call (e2::r) sc ρ)else ret v)=aB (ev call e sc ρ) λv=>aB (aS v) λt=>if(op=.And)=(t=true)then aq1 op (kG call (e2::r) sc ρ)else ret v;rw[h e zS,aR9 op (e2::r) λe' he=>h e' (zC _ he)]
theorem aD0 {sc ρ}:∀(ops:List CmpOp) (es:List Expr) (a:V),(∀e∈es,EqE call e)→u4 a ops (yF call es sc ρ)=iX a ops (kG call es sc ρ)
 | [],[],_,_=>rfl
 | [],_::_,_,_=>rfl
 | [_],[],_,_=>rfl
 | _::_::_,[],_,_=>rfl
 | _::_::_,[_],_,_=>rfl
 | [_],_::_::_,_,_=>rfl
 | [op],[e],a,h=>by
  show kE call e sc ρ .b (λb=>aK op a b)=aB (ev call e sc ρ) λb=>aK op a b;rw[h e zS]
 | op::op'::ops,e::e2::r,a,h=>by
  show kE call e sc ρ .b (λb=>aB (aK op a b) λc=>if c then u4 b (op'::ops) (yF call (e2::r) sc ρ)else ret false)=aB (ev call e sc ρ) λb=>aB (aK op a b) λc=>if c then iX b (op'::ops) (kG call (e2::r) sc ρ)else ret false;rw[h e zS];refine aX rfl λb=>aX rfl λc=>?_;rw[aD0 (op'::ops) (e2::r) b λe' he=>h e' (zC _ he)]
theorem az5 {α:An}{sc ρ}:∀(ks:List (Option Expr)) (vs:List Expr) (k:List (V×V)→M α.T),(∀e,some e∈ks→EqE call e)→(∀e∈vs,EqE call e)→
  uP (aW7 call ks sc ρ) (yF call vs sc ρ) k=aB (fU (rQ call ks sc ρ) (kG call vs sc ρ)) k:=by
 intro ks
 induction ks with
 | nil=>intro vs k _ _;cases vs<;>rfl
 | cons e ks ih=>
  intro vs k h h2;cases e with
  | none=>cases vs<;>rfl
  | some e=>
  cases vs with
  | nil=>rfl
  | cons v vs=>
  show kE call e sc ρ α (λa=>kE call v sc ρ α λb=>uP (aW7 call ks sc ρ) (yF call vs sc ρ) λr=>k ((a,b)::r))=aB (aB (ev call e sc ρ) λa=>aB (ev call v sc ρ) λb=>aB (fU (rQ call ks sc ρ) (kG call vs sc ρ)) λr=>ret ((a,b)::r)) k;rw[h e zS,aC];refine aX rfl λa=>?_;rw[h2 v zS,aC];refine aX rfl λb=>?_;rw[ih vs _ (λe' he=>h e' (zC _ he)) λe' he=>h2 e' (zC _ he),aC];rfl
theorem bz3 {c q p}:EqE call (.Constant c q p):=by
 intro sc ρ α k;cases c<;>rfl
theorem bc8 {x p}:EqE call (.Name x p):=by
 intro sc ρ α k;show kE call (.Name x p) sc ρ α k=aB (bc9 sc ρ x) k;have h:∀q:Option NameKind,(match q with
  | some .local=>aQ (ρ x) k
  | some .cell=>aQ (ρ x) k
  | some .free=>aQ (ρ x) k
  | some .globalImplicit=>aQ (G x) k
  | _=>fail)=aB (match q with
   | some .local=>bL (ρ x)
   | some .cell=>bL (ρ x)
   | some .free=>bL (ρ x)
   | some .globalImplicit=>bL (G x)
   | _=>fail) k:=λq=>by
  cases q with
  | none=>rfl
  | some v=>cases v<;>first | exact sC _ _ | rfl
 exact h _
theorem bP8 {e:Expr}(h:EqE call e)(h1:∀sc ρ wh,kC call e sc ρ wh=wh)(h2:∀sc ρ wh,zV call e sc ρ wh=aB wh aS):EqC call e:=by
 intro sc ρ;rw[h1,h,h2]
theorem EqE.go {e:Expr}{sc ρ}{α:An}{f:V→M α.T}{β:Type}{g:V→M β}{k:β→M α.T}(h:EqE call e)(q:∀a,f a=aB (g a) k):kE call e sc ρ α f=aB (aB (ev call e sc ρ) g) k:=by rw[h,aC,funext q]
theorem rS {α β γ:Type}{m:M α}{f:α→M γ}{g:α→M β}{k:β→M γ}(q:∀a,f a=aB (g a) k):aB m f=aB (aB m g) k:=by rw[aC,funext q]
theorem ad6 (fz:Bool){α:An}{sc ρ}{es:List Expr}{f:List V→M α.T}{β:Type}{g:List V→M β}{k:β→M α.T}(h:∀e∈es,EqE call e)(q:∀a,f a=aB (g a) k):ac2 fz (yF call es sc ρ) f=aB (aB (j0 fz (kG call es sc ρ)) g) k:=by rw[bg0 fz es _ h,aC,funext q]
theorem aG1 {α β γ:Type}{o:Option α}{f:α→M γ}{g:α→M β}{k:β→M γ}(q:∀a,f a=aB (g a) k):aQ o f=aB (aB (bL o) g) k:=by rw[sC,aC,funext q]
theorem bd5 {α γ:Type}{b:Bool}{m:M γ}{n:M α}{k:α→M γ}(q:m=aB n k):(if b then m else fail)=aB (aB (dD b) λ_=>n) k:=by rw[aC,bJ8,q]
theorem bR7 {α γ:Type}{b:Bool}{m:M γ}{n:M α}{k:α→M γ}(q:m=aB n k):(if b then fail else m)=aB (aB (dD (!b)) λ_=>n) k:=by rw[aC,aR2,q]
theorem aH4 {α γ:Type}{b:Prop} [Decidable b] {m:M γ}{n:M α}{k:α→M γ}(q:m=aB n k):(if b then m else fail)=aB (if b then n else fail) k:=by rw[sH,q];rfl
theorem bd6 {α:Type}{b:Bool}{m n m' n':M α}(h:m=m')(h2:n=n'):(if b then m else n)=if b then m' else n':=by rw[h,h2]
theorem bf1 {γ:Type}{w:M Unit}{f g:V→M (Option V)}{xs:List V}{k:V→M γ}(q:∀x,f x=g x):aB (bK w f xs) (λys=>k (.lst ys))=aB (aB (bK w g xs) λys=>ret (.lst ys)) k:=by rw[aC,funext q];rfl
theorem bn7 (f:Expr){as x ks p sc ρ}{α:An}{k:V→M α.T}:kE call (.Call f as (x::ks) p) sc ρ α k=aB (ev call (.Call f as (x::ks) p) sc ρ) k:=by cases f<;>rfl
theorem aS0 (op:BoolOp){sc ρ}:∀(es:List Expr),(∀e∈es,EqC call e)→kCs call op es sc ρ=bx8 call op es sc ρ
 | [],_=>rfl
 | e::r,h=>aX (h e zS sc ρ) λt=>congrArg (λm=>if(op=.And)=(t=true)then m else ret t) (aS0 op r λe' he=>h e' (zC _ he))
def bR1:Expr→Bool
 | .Slice _ _ _ _=>true
 | _=>false
theorem bw2 {e:Expr}(h:bR1 e=true):∃a b c p,e=.Slice a b c p:=by
 cases e
 case Slice a b c p=>exact⟨a,b,c,p,rfl⟩
 all_goals exact oN h
theorem bW2 {o i:Expr}{p:Pos}(h:bR1 i=false)(ho:EqE call o)(hi:EqE call i):EqE call (.Subscript o i p):=by
 intro sc ρ α k;have go:(kE call o sc ρ α λov=>kE call i sc ρ α λiv=>aB (aJ iv ov) k)=aB (aB (ev call o sc ρ) λov=>aB (ev call i sc ρ) λiv=>aJ iv ov) k:=ho.go λa=>hi.go λb=>rfl;clear ho hi;cases i<;>first | exact go | rfl | exact Bool.noConfusion (show true=false from h)
set_option maxHeartbeats 4000000 in
theorem bv6:∀(N:Nat) (e:Expr),sizeOf e < N→EqE call e∧EqC call e:=by
 intro N
 induction N with
 | zero=>exact λe h=>absurd h (Nat.not_lt_zero _)
 | succ N ih=>
  intro e hN;have mem:∀{es:List Expr},sizeOf es < N→∀e∈es,EqE call e:=λhs e he=>(ih e (Nat.lt_trans (List.sizeOf_lt_of_mem he) hs)).1;have plain:∀{e:Expr},EqE call e→(∀sc ρ wh,kC call e sc ρ wh=wh)→(∀sc ρ wh,zV call e sc ρ wh=aB wh aS)→EqE call e∧EqC call e:=λh h1 h2=>⟨h,bP8 h h1 h2⟩;cases e
  case Constant c k p=>exact plain bz3 (λ_ _ _=>rfl) λ_ _ _=>rfl
  case Name x p=>exact plain bc8 (λ_ _ _=>rfl) λ_ _ _=>rfl
  case BoolOp op vs p=>
   simp at hN;have hs:=(z3 hN).2.1;exact⟨λsc ρ α k=>congrArg (λm=>aB m k) (aR9 op vs (mem hs)),λsc ρ=>aS0 op vs λe he=>(ih e (Nat.lt_trans (List.sizeOf_lt_of_mem he) hs)).2⟩
  case BinOp l op r p=>
   simp at hN;refine plain (λsc ρ α k=>?_) (λ_ _ _=>rfl) λ_ _ _=>rfl;show kE call l sc ρ α (λa=>kE call r sc ρ α λb=>aB (i8 op a b) k)=aB (aB (ev call l sc ρ) λa=>aB (ev call r sc ρ) λb=>i8 op a b) k;exact(ih l (z4 hN).1).1.go λa=>(ih r (z4 hN).2.2.1).1.go λb=>rfl
  case UnaryOp op x p=>
   simp at hN;have hx:=ih x (z3 hN).2.1;clear hN ih mem;cases op
   case Not=>
    refine⟨λsc ρ α k=>?_,λsc ρ=>congrArg (λm=>aB m λb=>ret !b) (hx.2 sc ρ)⟩;show aB (kE call x sc ρ .b aS) (λb=>k (.bool !b))=aB (aB (ev call x sc ρ) λv=>aB (aS v) λb=>ret (.bool !b)) k;rw[hx.1,aC];exact rS λa=>rS λb=>rfl
   case USub=>
    refine plain (λsc ρ α k=>?_) (λ_ _ _=>rfl) λ_ _ _=>rfl;show kE call x sc ρ α (λv=>aQ (cA v) λi=>k (.int (-i)))=aB (aB (ev call x sc ρ) λv=>aB (bL (cA v)) λi=>ret (.int (-i))) k;exact hx.1.go λa=>aG1 λi=>rfl
   all_goals exact⟨λsc ρ α k=>rfl,λsc ρ=>rfl⟩
  case IfExp t b o p=>
   simp at hN;have z:=z4 hN;refine⟨λsc ρ α k=>?_,λsc ρ=>aX ((ih t z.1).2 sc ρ) λc=>bd6 ((ih b z.2.1).2 sc ρ) ((ih o z.2.2.1).2 sc ρ)⟩;refine congrArg (λm=>aB m k) (aX ((ih t z.1).2 sc ρ) λc=>bd6 ?_ ?_)
   ·exact((ih b z.2.1).1 sc ρ .v ret).trans (gA _)
   ·exact((ih o z.2.2.1).1 sc ρ .v ret).trans (gA _)
  case Compare l ops rs p=>
   simp at hN;have h0:∀sc ρ,kE call l sc ρ .b (λa=>u4 a ops (yF call rs sc ρ))=aB (ev call l sc ρ) λa=>iX a ops (kG call rs sc ρ):=λsc ρ=>by
    rw[(ih l (z4 hN).1).1];exact aX rfl λa=>aD0 ops rs a (mem (z4 hN).2.2.1)
   refine⟨λsc ρ α k=>?_,λsc ρ=>?_⟩
   ·show(if lastMarks ops rs then fail else aB (kE call l sc ρ .b λa=>u4 a ops (yF call rs sc ρ)) λb=>k (.bool b))=aB (aB (dD (!lastMarks ops rs)) λ_=>aB (ev call l sc ρ) λa=>aB (iX a ops (kG call rs sc ρ)) λb=>ret (.bool b)) k;refine bR7 ?_;rw[h0,aC];exact rS λa=>rS λb=>rfl
   ·exact(bd6 rfl (h0 sc ρ)).trans (aR2 (lastMarks ops rs) λ_=>aB (ev call l sc ρ) λa=>iX a ops (kG call rs sc ρ)).symm
  case List es p=>
   simp at hN;exact plain (λsc ρ α k=>aH4 (ad6 true (mem (z2 hN).1) λa=>rfl)) (λ_ _ _=>rfl) λ_ _ _=>rfl
  case Tuple es q p=>
   simp at hN;exact plain (λsc ρ α k=>aH4 (ad6 true (mem (z3 hN).1) λa=>rfl)) (λ_ _ _=>rfl) λ_ _ _=>rfl
  case Attribute o x p=>
   simp at hN;exact plain (λsc ρ α k=>bd5 ((ih o (z3 hN).1).1.go λa=>rfl)) (λ_ _ _=>rfl) λ_ _ _=>rfl
  case Dict ks vs p=>
   refine plain (λsc ρ α k=>?_) (λ_ _ _=>rfl) λ_ _ _=>rfl;have h2:(∀e,some e∈ks→EqE call e)∧(∀e∈vs,EqE call e):=by
    simp at hN;refine⟨λe he=>?_,mem (z3 hN).2.1⟩;have:=List.sizeOf_lt_of_mem he;simp at this;exact(ih e (Nat.lt_trans (Nat.lt_of_le_of_lt (Nat.le_add_left _ 1) this) (z3 hN).1)).1
   clear hN ih mem plain;have h3:(uP (aW7 call ks sc ρ) (yF call vs sc ρ) λkv=>if(kv.map (·.1)).Nodup∧kv.all (λe=>kS e.1)=true∧kv.length≤15 then k (.dct (kv.map (·.1)) (kv.map (·.2)))else fail) =
     aB (aB (fU (rQ call ks sc ρ) (kG call vs sc ρ)) λkv=>if(kv.map (·.1)).Nodup∧kv.all (λe=>kS e.1)=true∧kv.length≤15 then ret (.dct (kv.map (·.1)) (kv.map (·.2)))else fail) k:=by
    rw[az5 ks vs _ h2.1 h2.2];exact rS λkv=>aH4 rfl
   clear h2;cases ks with
   | nil=>cases vs with
    | nil=>rfl
    | cons v vs=>exact h3
   | cons x ks=>cases vs<;>exact h3
  case Call f as ks p=>
   refine plain (λsc ρ α k=>?_) (λ_ _ _=>rfl) λ_ _ _=>rfl;simp at hN;have h2:=mem (z4 hN).2.1;cases ks with
   | cons _ _=>exact bn7 f
   | nil=>
    have hf:=(z4 hN).1;clear hN mem plain;cases f
    case Name x q=>
     show kE call (.Name x q) sc ρ α (λfv=>ac2 (bw3 fv) (yF call as sc ρ) λvs=>aB (aR3 call fv vs) k)=aB (aB (ev call (.Name x q) sc ρ) λfv=>aB (j0 (bw3 fv) (kG call as sc ρ)) λvs=>aR3 call fv vs) k;exact bc8.go λfv=>ad6 _ h2 λvs=>rfl
    case Attribute o x q=>
     have ho:=(ih o (Nat.lt_trans (by simp;lia) hf)).1;show(if pP o&&yQ q p as then kE call o sc ρ α λov=>aB (bF x ov) λmk=>ac2 (cG mk) (yF call as sc ρ) λvs=>aB (bD call mk x ov vs) k else fail) =
      aB (aB (dD (pP o&&yQ q p as)) λ_=>aB (ev call o sc ρ) λov=>aB (bF x ov) λmk=>aB (j0 (cG mk) (kG call as sc ρ)) λvs=>bD call mk x ov vs) k
     exact bd5 (ho.go λov=>rS λmk=>ad6 _ h2 λvs=>rfl)
    all_goals rfl
  case Subscript o i p=>
   refine plain ?_ (λ_ _ _=>rfl) λ_ _ _=>rfl;simp at hN;have ho:=(ih o (z3 hN).1).1;cases hs:bR1 i
   ·exact bW2 hs ho (ih i (z3 hN).2.1).1
   obtain⟨lo,up,st,q,rfl⟩:=bw2 hs;have hq:=z3 hN;simp at hq;have hq:=hq.2.1;clear mem plain hN hs;intro sc ρ α k;cases lo with
   | none=>
    cases up with
    | none=>rfl
    | some up=>
     cases st with
     | none=>
      have hu:=(ih up (by simp at hq;lia)).1;clear ih hq;show(kE call o sc ρ α λov=>kE call up sc ρ α λh=>aQ (cA h) λh=>aB (iA h ov) k)=aB (aB (ev call o sc ρ) λov=>aB (ev call up sc ρ) λh=>aB (bL (cA h)) λh=>iA h ov) k;exact ho.go λov=>hu.go λh=>aG1 λh=>rfl
     | some _=>rfl
   | some lo=>
    cases up with
    | some _=>rfl
    | none=>
     cases st with
     | none=>
      have hu:=(ih lo (by simp at hq;lia)).1;clear ih hq;show(kE call o sc ρ α λov=>kE call lo sc ρ α λh=>aQ (cA h) λh=>aB (fY h ov) k)=aB (aB (ev call o sc ρ) λov=>aB (ev call lo sc ρ) λh=>aB (bL (cA h)) λh=>fY h ov) k;exact ho.go λov=>hu.go λh=>aG1 λh=>rfl
     | some _=>rfl
  case ListComp elt gens csc p=>
   refine plain (λsc ρ α k=>?_) (λ_ _ _=>rfl) λ_ _ _=>rfl;simp at hN;have he:=(ih elt (z4 hN).1).1;have hg:=(z4 hN).2.1;clear hN mem plain;rcases gens with _ | ⟨⟨tgt,iter,ifs,n⟩,_ | ⟨g2,r⟩⟩
   ·rfl
   ·have hi:=(ih iter (by simp at hg;lia)).1
    have hc:∀c,ifs=[c]→EqC call c:=λc e=>(ih c (by subst e;simp at hg;lia)).2;clear ih hg;rcases n with(_ | m) | m
    ·rcases ifs with _ | ⟨c,_ | ⟨c2,r⟩⟩
     ·show(if okC sc csc then kE call iter sc ρ α λit=>aB (c8 it) λxs=>aB (bK (still xs (aP it)) (λx=>aK0 csc tgt x (pI csc ρ) λρ'=>kE call elt csc ρ' .o λy=>ret (some y)) xs) λys=>k (.lst ys)else fail) =
       aB (aB (dD (okC sc csc)) λ_=>aB (ev call iter sc ρ) λit=>aB (c8 it) λxs=>aB (bK (still xs (aP it)) (λx=>aB (bL (kP csc tgt x (pI csc ρ))) λρ'=>aB (ev call elt csc ρ') λy=>ret (some y)) xs) λys=>ret (.lst ys)) k
      refine bd5 (hi.go λit=>rS λxs=>bf1 λx=>?_);exact(ac4 ..).trans (aX rfl λρ'=>he csc ρ' .o _)
     ·show(if okC sc csc then kE call iter sc ρ α λit=>aB (c8 it) λxs=>aB (bK (still xs (aP it)) (λx=>aK0 csc tgt x (pI csc ρ) λρ'=>aB (kC call c csc ρ' (kE call c csc ρ' .b aS)) λb=>if b then kE call elt csc ρ' .o λy=>ret (some y)else ret none) xs) λys=>k (.lst ys)else fail) =
       aB (aB (dD (okC sc csc)) λ_=>aB (ev call iter sc ρ) λit=>aB (c8 it) λxs=>aB (bK (still xs (aP it)) (λx=>aB (bL (kP csc tgt x (pI csc ρ))) λρ'=>
        aB (zV call c csc ρ' (ev call c csc ρ')) λb=>if b then aB (ev call elt csc ρ') λy=>ret (some y)else ret none) xs) λys=>ret (.lst ys)) k
      refine bd5 (hi.go λit=>rS λxs=>bf1 λx=>?_);exact(ac4 ..).trans (aX rfl λρ'=>aX (hc c rfl csc ρ') λb=>bd6 (he csc ρ' .o _) rfl)
     ·rfl
    ·clear hc hi he;rcases ifs with _ | ⟨c,_ | ⟨c2,r⟩⟩<;>rfl
    ·clear hc hi he;rcases ifs with _ | ⟨c,_ | ⟨c2,r⟩⟩<;>rfl
   ·clear ih he hg;rcases n with(_ | m) | m<;>rcases ifs with _ | ⟨c,_ | ⟨c2,r⟩⟩<;>rfl
  all_goals exact⟨λsc ρ α k=>rfl,λsc ρ=>rfl⟩
theorem jA (e:Expr):EqE call e:=(bv6 (sizeOf e+1) e (Nat.lt_succ_self _)).1
theorem bX6 (e:Expr):EqC call e:=(bv6 (sizeOf e+1) e (Nat.lt_succ_self _)).2
end
section
variable (call:CT)
abbrev bz5 (t:Expr)(sc:Scope)(ρ:LE):M Bool:=kC call t sc ρ (kE call t sc ρ .b aS)
def bL9 (o i:Expr)(v:V)(sc:Scope)(ρ:LE)(k:LE→M V):M V:=match i with
 | .Slice _ _ _ _=>fail
 | i=>kE call o sc ρ .v λov=>kE call i sc ρ .v λiv=>aB (b7 iv v ov) λ_=>k ρ
def bV2 (t:Expr)(v:V)(sc:Scope)(ρ:LE)(k:LE→M V):M V:=match t with
 | .Name x _=>if fG sc x then k (upd ρ x v)else fail
 | .Tuple es q p=>aK0 sc (.Tuple es q p) v ρ k
 | .Attribute o x _=>kE call o sc ρ .v λov=>aB (bH x v ov) λ_=>k ρ
 | .Subscript o i _=>bL9 call o i v sc ρ k
 | _=>fail
def bP4 (b:Bool)(e:Expr)(sc:Scope)(ρ:LE)(k:V→M V):M V:=match e with
 | .List es _=>if es.length≤1000 then ac2 (α:=.v) false (yF call es sc ρ) λvs=>aB (bN (.list vs)) k else fail
 | .Dict ks vs _=>uP (α:=.v) (aW7 call ks sc ρ) (yF call vs sc ρ) λkv=>if(kv.map (·.1)).Nodup∧kv.all (λe=>kS e.1)=true∧kv.length≤15 then aB (bN (.dict kv)) k else fail
 | .Tuple es q p=>if b then fail else kE call (.Tuple es q p) sc ρ .v k
 | e=>kE call e sc ρ .v k
def bN9 (ts:List Expr)(e:Expr)(sc:Scope)(ρ:LE)(k:LE→M V):M V:=match ts with
 | [t]=>bP4 call (lU t) e sc ρ λv=>bV2 call t v sc ρ k
 | _=>fail
def bN7 (t:Expr)(op:Operator)(e:Expr)(sc:Scope)(ρ:LE)(k:LE→M V):M V:=match t with
 | .Name x _=>if fG sc x then aQ (ρ x) λold=>kE call e sc ρ .v λv=>aB (jH op old v) λr=>k (upd ρ x r)else fail
 | .Attribute o x _=>kE call o sc ρ .v λov=>aB (aR x ov) λold=>kE call e sc ρ .v λv=>aB (jH op old v) λr=>aB (bH x r ov) λ_=>k ρ
 | _=>fail
def bN1 (o:Expr)(lo up st:Option Expr)(sc:Scope)(ρ:LE)(k:LE→M V):M V:=match lo with
 | none=>fail
 | some lo=>match up with
  | some _=>fail
  | none=>match st with
   | some _=>fail
   | none=>kE call o sc ρ .v λov=>kE call lo sc ρ .v λl=>aQ (cA l) λi=>aB (g9 i ov) λ_=>k ρ
def bN2 (o i:Expr)(sc:Scope)(ρ:LE)(k:LE→M V):M V:=match i with
 | .Slice lo up st _=>bN1 call o lo up st sc ρ k
 | i=>kE call o sc ρ .v λov=>kE call i sc ρ .v λiv=>aB (iW iv ov) λ_=>k ρ
def bN0 (ts:List Expr)(sc:Scope)(ρ:LE)(k:LE→M V):M V:=match ts with
 | [t]=>match t with
  | .Subscript o i _=>bN2 call o i sc ρ k
  | _=>fail
 | _=>fail
def bx6 (e:Expr)(sc:Scope)(ρ:LE)(k:LE→M V):M V:=match e with
 | .Call f as ks p=>kE call (.Call f as ks p) sc ρ .v λ_=>k ρ
 | _=>fail
def bM0 (e:Option Expr)(sc:Scope)(ρ:LE):M V:=match e with
 | some e=>kE call e sc ρ .v aA
 | none=>fail
mutual
def kX:Stmt→Scope→LE→(LE→M V)→M V
 | .Expr e _,sc,ρ,k=>bx6 call e sc ρ k
 | .Return e _,sc,ρ,_=>bM0 call e sc ρ
 | .Assign ts e _,sc,ρ,k=>bN9 call ts e sc ρ k
 | .AugAssign t op e _,sc,ρ,k=>bN7 call t op e sc ρ k
 | .Delete ts _,sc,ρ,k=>bN0 call ts sc ρ k
 | .If t b o _,sc,ρ,k=>aB (bz5 call t sc ρ) λc=>if c then kXs b sc ρ k else kXs o sc ρ k
 | .While t b o _,sc,ρ,k=>match o with
  | []=>oR (λρ=>bz5 call t sc ρ) (λρ k=>kXs b sc ρ k) 1000 ρ k
  | _=>fail
 | .For tgt it b o _,sc,ρ,k=>match o with
  | []=>kE call it sc ρ .v λx=>aB (bU x) λxs=>b9 (still xs (aP x)) (λx ρ k=>aK0 sc tgt x ρ λρ'=>kXs b sc ρ' k) xs ρ k
  | _=>fail
 | .Pass _,_,ρ,k=>k ρ
 | _,_,_,_=>fail
def kXs:List Stmt→Scope→LE→(LE→M V)→M V
 | [],_,ρ,k=>k ρ
 | s::r,sc,ρ,k=>kX s sc ρ λρ'=>kXs r sc ρ' k
end
def bP3 (f:Fn)(vs:List V):M V:=if f.ps.all (fG f.sc)&&decide f.ps.Nodup then aD4 f.ps vs (λ_=>Option.none) λρ=>kXs call f.body f.sc ρ λ_=>ret .none else fail
end
section
variable {call:CT}
theorem br2 (o i:Expr)(v:V)(sc:Scope)(ρ:LE)(k:LE→M V):bL9 call o i v sc ρ k=aB (bW5 call o i v sc ρ) k:=by
 have go:(kE call o sc ρ .v λov=>kE call i sc ρ .v λiv=>aB (b7 iv v ov) λ_=>k ρ)=aB (aB (ev call o sc ρ) λov=>aB (ev call i sc ρ) λiv=>aB (b7 iv v ov) λ_=>ret ρ) k:=by
  rw[jA,aC];refine aX rfl λov=>?_;rw[jA,aC];refine aX rfl λiv=>?_;rw[aC];rfl
 revert go;cases i<;>first | exact λ_=>rfl | exact id
theorem bQ2 (b:Bool)(ρ' ρ:LE)(k:LE→M V):(if b then k ρ' else fail)=aB (if b then ret ρ' else fail) k:=by cases b<;>rfl
theorem bL1 (t:Expr)(v:V)(sc:Scope)(ρ:LE)(k:LE→M V):bV2 call t v sc ρ k=aB (asg call t v sc ρ) k:=by
 cases t
 case Name x p=>exact bQ2 _ _ ρ k
 case Tuple es q p=>exact ac4 sc (.Tuple es q p) v ρ k
 case Attribute o x p=>
  show(kE call o sc ρ .v λov=>aB (bH x v ov) λ_=>k ρ)=aB (aB (ev call o sc ρ) λov=>aB (bH x v ov) λ_=>ret ρ) k;rw[jA,aC];refine aX rfl λov=>?_;rw[aC];rfl
 case Subscript o i p=>exact br2 o i v sc ρ k
 all_goals rfl
theorem al9 (g:LE→M (Fl×LE))(k:LE→M V)(p:Fl×LE):aB (am0 g p) (tE k)=tE (λρ=>aB (g ρ) (tE k)) p:=by
 rcases p with⟨f,ρ⟩;cases f<;>rfl
theorem bI7 {w:M Unit}{f:V→LE→(LE→M V)→M V}{g:V→LE→M (Fl×LE)}(h:∀x ρ k,f x ρ k=aB (g x ρ) (tE k)):∀(xs:List V) (ρ:LE) (k:LE→M V),b9 w f xs ρ k=aB (ac0 w g xs ρ) (tE k):=by
 intro ll
 induction ll with
 | nil=>
  intro ρ k;show aB w (λ_=>k ρ)=aB (aB w λ_=>ret (Fl.next,ρ)) (tE k);rw[aC];rfl
 | cons x r ih=>
  intro ρ k;show aB w (λ_=>f x ρ λρ'=>b9 w f r ρ' k)=aB (aB w λ_=>aB (g x ρ) (am0 (ac0 w g r))) (tE k);rw[aC];refine aX rfl λ_=>?_;rw[h,aC];refine aX rfl λp=>?_;rw[al9];congr 1;funext ρ';exact ih ρ' k
theorem bg5 {c:LE→M Bool}{c':LE→M Bool}{f:LE→(LE→M V)→M V}{g:LE→M (Fl×LE)}(hc:∀ρ,c ρ=c' ρ)(h:∀ρ k,f ρ k=aB (g ρ) (tE k)):∀(n:Nat) (ρ:LE) (k:LE→M V),oR c f n ρ k=aB (qF c' g n ρ) (tE k):=by
 intro mm
 induction mm with
 | zero=>
  intro ρ k;exact rfl
 | succ n ih=>
  intro ρ k;show aB (c ρ) (λb=>if b then f ρ λρ'=>oR c f n ρ' k else k ρ)=aB (aB (c' ρ) λb=>if b then aB (g ρ) (am0 (qF c' g n))else ret (.next,ρ)) (tE k);rw[aC,hc];refine aX rfl λb=>?_;rw[sH];congr 1;rw[h,aC];refine aX rfl λp=>?_;rw[al9];congr 1;funext ρ';exact ih ρ' k
theorem bf0 (t:Expr)(sc:Scope)(ρ:LE):bz5 call t sc ρ=zV call t sc ρ (ev call t sc ρ):=bX6 t sc ρ
def EqS (call:CT)(s:Stmt):Prop:=∀sc ρ k,kX call s sc ρ k=aB (ex call s sc ρ) (tE k)
theorem an0:∀(b:List Stmt) (sc:Scope) (ρ:LE) (k:LE→M V),(∀s∈b,EqS call s)→kXs call b sc ρ k=aB (uH call b sc ρ) (tE k):=by
 intro ll
 induction ll with
 | nil=>
  intro sc ρ k _;exact rfl
 | cons s r ih=>
  intro sc ρ k h;show kX call s sc ρ (λρ'=>kXs call r sc ρ' k)=aB (aB (ex call s sc ρ) (am0 λρ'=>uH call r sc ρ')) (tE k);rw[h s zS,aC];refine aX rfl λp=>?_;rw[al9];congr 1;funext ρ';exact ih sc ρ' k λs' hs=>h s' (zC _ hs)
theorem oM {α:Type}(m:M α)(f:α→LE)(k:LE→M V):aB (aB m λa=>ret (Fl.next,f a)) (tE k)=aB m λa=>k (f a):=by rw[aC];rfl
theorem bE6 (b:Bool)(e:Expr)(sc:Scope)(ρ:LE)(k:V→M V):bP4 call b e sc ρ k=aB (aE8 call b e sc ρ) k:=by
 cases e
 case List es q=>
  show(if es.length≤1000 then ac2 (α:=.v) false (yF call es sc ρ) λvs=>aB (bN (.list vs)) k else fail)=aB (if es.length≤1000 then aB (j0 false (kG call es sc ρ)) λvs=>bN (.list vs)else fail) k;rw[sH,aC,bg0 (α:=.v) false es _ λe _=>jA e];rfl
 case Dict ks vs q=>
  show(uP (α:=.v) (aW7 call ks sc ρ) (yF call vs sc ρ) λkv=>if(kv.map (·.1)).Nodup∧kv.all (λe=>kS e.1)=true∧kv.length≤15 then aB (bN (.dict kv)) k else fail) =
   aB (aB (fU (rQ call ks sc ρ) (kG call vs sc ρ)) λkv=>if(kv.map (·.1)).Nodup∧kv.all (λe=>kS e.1)=true∧kv.length≤15 then bN (.dict kv)else fail) k
  rw[aC,az5 (α:=.v) ks vs _ (λe _=>jA e) λe _=>jA e];refine aX rfl λkv=>?_;rw[sH];rfl
 case Tuple es q p=>cases b with
  | true=>rfl
  | false=>exact jA _ _ _ _ _
 all_goals exact jA _ _ _ _ _
theorem bB4 (t:Expr)(op:Operator)(e:Expr)(sc:Scope)(ρ:LE)(k:LE→M V):bN7 call t op e sc ρ k=aB (ca2 call t op e sc ρ) (tE k):=by
 cases t
 case Name x q=>
  show(if fG sc x then aQ (ρ x) λold=>kE call e sc ρ .v λv=>aB (jH op old v) λr=>k (upd ρ x r)else fail) =
   aB (if fG sc x then aB (bL (ρ x)) λold=>aB (ev call e sc ρ) λv=>aB (jH op old v) λr=>ret (.next,upd ρ x r)else fail) (tE k)
  rw[sH,sC,aC];congr 1;refine aX rfl λold=>?_;rw[jA,aC];refine aX rfl λv=>?_;rw[oM _ λr=>upd ρ x r]
 case Attribute o x q=>
  show(kE call o sc ρ .v λov=>aB (aR x ov) λold=>kE call e sc ρ .v λv=>aB (jH op old v) λr=>aB (bH x r ov) λ_=>k ρ) =
   aB (aB (ev call o sc ρ) λov=>aB (aR x ov) λold=>aB (ev call e sc ρ) λv=>aB (jH op old v) λr=>aB (bH x r ov) λ_=>ret (.next,ρ)) (tE k)
  rw[jA,aC];refine aX rfl λov=>?_;rw[aC];refine aX rfl λold=>?_;rw[jA,aC];refine aX rfl λv=>?_;rw[aC];refine aX rfl λr=>?_;rw[oM _ λ_=>ρ]
 all_goals rfl
theorem by7 (o:Expr)(lo up st:Option Expr)(sc:Scope)(ρ:LE)(k:LE→M V):bN1 call o lo up st sc ρ k=aB (bZ2 call o lo up st sc ρ) (tE k):=by
 cases lo with
 | none=>rfl
 | some lo=>cases up with
  | some _=>rfl
  | none=>cases st with
   | some _=>rfl
   | none=>
    show(kE call o sc ρ .v λov=>kE call lo sc ρ .v λl=>aQ (cA l) λi=>aB (g9 i ov) λ_=>k ρ) =
     aB (aB (ev call o sc ρ) λov=>aB (ev call lo sc ρ) λl=>aB (bL (cA l)) λi=>aB (g9 i ov) λ_=>ret (.next,ρ)) (tE k)
    rw[jA,aC];refine aX rfl λov=>?_;rw[jA,aC];refine aX rfl λl=>?_;rw[sC,aC];refine aX rfl λi=>?_;rw[oM _ λ_=>ρ]
theorem by8 (o i:Expr)(sc:Scope)(ρ:LE)(k:LE→M V):bN2 call o i sc ρ k=aB (bZ3 call o i sc ρ) (tE k):=by
 have go:(kE call o sc ρ .v λov=>kE call i sc ρ .v λiv=>aB (iW iv ov) λ_=>k ρ)=aB (aB (ev call o sc ρ) λov=>aB (ev call i sc ρ) λiv=>aB (iW iv ov) λ_=>ret (.next,ρ)) (tE k):=by
  rw[jA,aC];refine aX rfl λov=>?_;rw[jA,aC];refine aX rfl λiv=>?_;rw[oM _ λ_=>ρ]
 revert go;cases i
 case Slice lo up st q=>exact λ_=>by7 o lo up st sc ρ k
 all_goals exact id
theorem by5 (ts:List Expr)(sc:Scope)(ρ:LE)(k:LE→M V):bN0 call ts sc ρ k=aB (bZ1 call ts sc ρ) (tE k):=by
 rcases ts with _ | ⟨t,_ | ⟨t2,r⟩⟩
 ·rfl
 ·cases t
  case Subscript o i q=>exact by8 o i sc ρ k
  all_goals rfl
 ·rfl
theorem bB6 (ts:List Expr)(e:Expr)(sc:Scope)(ρ:LE)(k:LE→M V):bN9 call ts e sc ρ k=aB (ca3 call ts e sc ρ) (tE k):=by
 rcases ts with _ | ⟨t,_ | ⟨t2,r⟩⟩
 ·rfl
 ·show bP4 call (lU t) e sc ρ (λv=>bV2 call t v sc ρ k)=aB (aB (aE8 call (lU t) e sc ρ) λv=>aB (asg call t v sc ρ) λρ'=>ret (.next,ρ')) (tE k);rw[bE6,aC];refine aX rfl λv=>?_;rw[bL1,oM _ λρ'=>ρ']
 ·rfl
theorem bm5 (e:Expr)(sc:Scope)(ρ:LE)(k:LE→M V):bx6 call e sc ρ k=aB (bM8 call e sc ρ) (tE k):=by
 cases e
 case Call f as ks q=>
  show kE call (.Call f as ks q) sc ρ .v (λ_=>k ρ)=aB (aB (ev call (.Call f as ks q) sc ρ) λ_=>ret (.next,ρ)) (tE k);rw[jA,oM _ (λ_=>ρ)]
 all_goals rfl
theorem bs2 (e:Option Expr)(sc:Scope)(ρ:LE)(k:LE→M V):bM0 call e sc ρ=aB (bW9 call e sc ρ) (tE k):=by
 cases e with
 | none=>rfl
 | some e=>
  show kE call e sc ρ .v aA=aB (aB (ev call e sc ρ) λv=>aB (aA v) λv=>ret (.ret v,ρ)) (tE k);rw[jA,aC];refine aX rfl λv=>?_;rw[aC];exact(gA _).symm
theorem bR0:∀(N:Nat) (s:Stmt),sizeOf s < N→EqS call s:=by
 intro N
 induction N with
 | zero=>intro s h;lia
 | succ N ih=>
  have mem:∀{b:List Stmt},sizeOf b < N→∀s∈b,EqS call s:=λhs e he=>ih e (Nat.lt_trans (List.sizeOf_lt_of_mem he) hs);intro s;cases s
  case Expr e p=>exact λ_ sc ρ k=>bm5 e sc ρ k
  case Return e p=>exact λ_ sc ρ k=>bs2 e sc ρ k
  case Assign ts e p=>exact λ_ sc ρ k=>bB6 ts e sc ρ k
  case AugAssign t op e p=>exact λ_ sc ρ k=>bB4 t op e sc ρ k
  case Delete ts p=>exact λ_ sc ρ k=>by5 ts sc ρ k
  case If t b o p=>
   intro hN sc ρ k;simp at hN;show aB (bz5 call t sc ρ) (λc=>if c then kXs call b sc ρ k else kXs call o sc ρ k)=aB (aB (zV call t sc ρ (ev call t sc ρ)) λc=>if c then uH call b sc ρ else uH call o sc ρ) (tE k);rw[bf0,aC];refine aX rfl λc=>?_;rw[sH,an0 b _ _ _ (mem (by lia)),an0 o _ _ _ (mem (by lia))]
  case While t b o p=>
   intro hN sc ρ k;simp at hN;cases o with
   | nil=>
    show oR (λρ=>bz5 call t sc ρ) (λρ k=>kXs call b sc ρ k) 1000 ρ k=aB (qF (λρ=>zV call t sc ρ (ev call t sc ρ)) (λρ=>uH call b sc ρ) 1000 ρ) (tE k);exact bg5 (λρ=>bf0 (call:=call) t sc ρ) (λρ k=>an0 b sc ρ k (mem (by lia))) 1000 ρ k
   | cons _ _=>rfl
  case For tgt it b o p=>
   intro hN sc ρ k;simp at hN;cases o with
   | nil=>
    show(kE call it sc ρ .v λx=>aB (bU x) λxs=>b9 (still xs (aP x)) (λx ρ k=>aK0 sc tgt x ρ λρ'=>kXs call b sc ρ' k) xs ρ k) =
     aB (aB (ev call it sc ρ) λx=>aB (bU x) λxs=>ac0 (still xs (aP x)) (λx ρ=>aB (bL (kP sc tgt x ρ)) λρ'=>uH call b sc ρ') xs ρ) (tE k)
    rw[jA,aC];refine aX rfl λx=>?_;rw[aC];refine aX rfl λxs=>?_;refine bI7 (λx ρ k=>?_) xs ρ k;rw[ac4,aC];refine aX rfl λρ'=>?_;exact an0 b _ _ _ (mem (by lia))
   | cons _ _=>rfl
  all_goals exact λ_ _ _ _=>rfl
theorem bi5:(λp:Fl×LE=>ret (bM3 p.1))=tE λ_=>ret V.none:=by
 funext p;rcases p with⟨f,ρ⟩;cases f<;>rfl
theorem bE5 (f:Fn)(vs:List V):yX call f vs=bP3 call f vs:=by
 unfold yX bP3;rw[bi5];have h:∀ρ,aB (uH call f.body f.sc ρ) (tE λ_=>ret V.none)=kXs call f.body f.sc ρ λ_=>ret V.none:=λρ=>(an0 f.body _ _ _ λs _=>bR0 _ s (Nat.lt_succ_self _)).symm;simp only[h];by_cases q:(f.ps.all (fG f.sc)&&decide f.ps.Nodup)=true
 ·rw[if_pos q,q,aq3,sC];rfl
 ·rw[if_neg q];simp only[Bool.not_eq_true]at q;rw[q];cases cZ f.ps vs λ_=>none<;>rfl
theorem aO {n i j:Nat}{f:Fn}{vs:List V}(h:aT i j=some f):aD (n+1) (.fn i j) vs=bP3 (aD n) f vs:=by
 show(aB (bL (aT i j)) λf=>yX (aD n) f vs)=_;rw[h,←bE5];rfl
end
def e0:LE:=λ_=>Option.none
def bV {α:Type}(op:BoolOp)(t:Bool)(a b:M α):M α:=if(op=.And)=(t=true)then a else b
def wJ (c:CT)(self_:V):M V:=aB (bN (.list [])) λa=>aB (bH (S "rows") a self_) λb=>ret .none
theorem ab8 (n:Nat)(self_:V):aD (n+1) (.fn 7 1) [self_]=wJ (aD n) self_:=(aO (f:=(aT 7 1).get rfl) rfl).trans (by ext)
def zF (g:CT)(self_ code_ at_:V):M V:=aB (aR (S "rows") self_) λa=>aB (bF (S "append") a) λb=>aB (aA code_) λc=>aB (aA at_) λd=>cI (cG b) (.tup [c,d]) λe=>aB (bD g b (S "append") a [e]) λf=>ret .none
theorem al8 (n:Nat)(self_ code_ at_:V):aD (n+1) (.fn 7 2) [self_,code_,at_]=zF (aD n) self_ code_ at_:=(aO (f:=(aT 7 2).get rfl) rfl).trans (by ext)
abbrev y9 (i:CT)(self_ row_:V):M V:=aB (aR (S "rows") self_) λa=>aB (jG "len" [a]) λb=>aB (aR (S "rows") self_) λc=>aB (bF (S "append") c) λd=>cI (cG d) row_ λe=>aB (bD i d (S "append") c [e]) λf=>aB (aR (S "index") self_) λg=>aB (b7 row_ b g) λh=>aA b
def aM8 (e:CT)(self_ row_:V):M V:=aB (aB (aR (S "index") self_) λa=>aK .In row_ a) λb=>if b then(aB (aR (S "index") self_) λc=>aB (aJ row_ c) λd=>aA d)else(y9 e self_ row_)
theorem aM7 (n:Nat)(self_ row_:V):aD (n+1) (.fn 58 3) [self_,row_]=aM8 (aD n) self_ row_:=(aO (f:=(aT 58 3).get rfl) rfl).trans (by ext)
def az9 (d:CT)(tab_ t_:V):M V:=aB (aR (S "rows") tab_) λa=>aB (aJ t_ a) λb=>aB (aJ (.int 0) b) λc=>aA c
theorem aF9 (n:Nat)(tab_ t_:V):aD (n+1) (.fn 60 0) [tab_,t_]=az9 (aD n) tab_ t_:=(aO (f:=(aT 60 0).get rfl) rfl).trans (by ext)
def ag9 (f:CT)(tab_ text_ fresh_:V):M V:=aB (bF (S "put") tab_) λa=>aB (aA text_) λb=>aB (aA fresh_) λc=>cI (cG a) (.tup [(.int 3),b,c]) λd=>aB (bD f a (S "put") tab_ [d]) λe=>aA e
theorem ar9 (n:Nat)(tab_ text_ fresh_:V):aD (n+1) (.fn 61 0) [tab_,text_,fresh_]=ag9 (aD n) tab_ text_ fresh_:=(aO (f:=(aT 61 0).get rfl) rfl).trans (by ext)
def ah6 (f:CT)(tab_ n_ fresh_:V):M V:=aB (bF (S "put") tab_) λa=>aB (aA n_) λb=>aB (aA fresh_) λc=>cI (cG a) (.tup [(.int 4),b,c]) λd=>aB (bD f a (S "put") tab_ [d]) λe=>aA e
theorem as2 (n:Nat)(tab_ n_ fresh_:V):aD (n+1) (.fn 62 0) [tab_,n_,fresh_]=ah6 (aD n) tab_ n_ fresh_:=(aO (f:=(aT 62 0).get rfl) rfl).trans (by ext)
def y8 (h:CT)(tab_ b_ fresh_:V):M V:=aB (bF (S "put") tab_) λa=>aB (aB (aS b_) λb=>if b then(ret (.int 1))else(ret (.int 0))) λc=>aB (aA c) λd=>aB (aA fresh_) λe=>cI (cG a) (.tup [(.int 2),d,e]) λf=>aB (bD h a (S "put") tab_ [f]) λg=>aA g
theorem ak6 (n:Nat)(tab_ b_ fresh_:V):aD (n+1) (.fn 63 0) [tab_,b_,fresh_]=y8 (aD n) tab_ b_ fresh_:=(aO (f:=(aT 63 0).get rfl) rfl).trans (by ext)
abbrev nZ (n:CT)(a:LE)(b:V):M V:=aQ (a (S "tab")) λc=>aB (bF (S "put") c) λd=>aQ (a (S "did")) λe=>aB (aA e) λf=>aB (aA b) λg=>aQ (a (S "value")) λh=>aB (aA h) λi=>aQ (a (S "fresh")) λj=>aB (aA j) λk=>cI (cG d) (.tup [(.int 5),f,g,i,k]) λl=>aB (bD n d (S "put") c [l]) λm=>aA m
def cX (k:CT):V→LE→(LE→M V)→M V:=λa b c=>xD a λd=>eD d λe f=>eD f λg h=>yB h (aB (aQ (b (S "value")) λi=>aK .Eq g i) λj=>if j then(nZ k b e)else(c (upd (upd b (S "other") e) (S "held") g)))
def x6 (n:CT):LE→M V:=λa=>aQ (a (S "tab")) λb=>aB (bF (S "put") b) λc=>aQ (a (S "did")) λd=>aB (aA d) λe=>aQ (a (S "name")) λf=>aB (aA f) λg=>aQ (a (S "value")) λh=>aB (aA h) λi=>aQ (a (S "fresh")) λj=>aB (aA j) λk=>cI (cG c) (.tup [(.int 5),e,g,i,k]) λl=>aB (bD n c (S "put") b [l]) λm=>aA m
def tN (j:CT)(tab_ did_ name_ value_ fresh_:V):M V:=aB (aB (aB (aK .Lt (.int 0) did_) λa=>if a then(aB (aR (S "decls") tab_) λb=>aB (jG "len" [b]) λc=>aK .Lt did_ c)else ret false) λd=>if d then(aB (aR (S "decls") tab_) λe=>aB (aJ did_ e) λf=>aB (aR (S "members") f) λg=>ret g)else(ret (.lst []))) λh=>aB (bU h) λi=>b9 (still i (aP h)) (cX j) i (upd (upd (upd (upd (upd (upd e0 (S "tab") tab_) (S "did") did_) (S "name") name_) (S "value") value_) (S "fresh") fresh_) (S "told") h) (x6 j)
theorem x7 (n:Nat)(tab_ did_ name_ value_ fresh_:V):aD (n+1) (.fn 64 0) [tab_,did_,name_,value_,fresh_]=tN (aD n) tab_ did_ name_ value_ fresh_:=(aO (f:=(aT 64 0).get rfl) rfl).trans (by ext)
abbrev as0 (g:CT)(tab_ t_:V):M V:=aB (aR (S "rows") tab_) λa=>aB (aJ t_ a) λb=>aB (aB (aJ (.int 0) b) λc=>aK .Eq c (.int 6)) λd=>if d then(aB (aJ (.int 1) b) λe=>aA e)else(aB (aA t_) λf=>aA (.tup [f]))
def ah5 (b:CT)(tab_ t_:V):M V:=aB (aK .Eq t_ (.int 2)) λa=>if a then(aA (.tup []))else(as0 b tab_ t_)
theorem as1 (n:Nat)(tab_ t_:V):aD (n+1) (.fn 66 0) [tab_,t_]=ah5 (aD n) tab_ t_:=(aO (f:=(aT 66 0).get rfl) rfl).trans (by ext)
abbrev vK (e:CT)(row_:V):M V:=aB (aB (aB (aJ (.int 3) row_) λa=>aB (jG "isinstance" [a,(.ty "str")]) λb=>aS b) λc=>if c then(ret (.int 6))else(ret (.int 7))) λd=>aA d
abbrev vJ (d:CT)(a row_:V):M V:=aB (aK .Eq a (.int 4)) λb=>if b then(aA (.int 7))else(aB (aK .Eq a (.int 5)) λc=>if c then(vK d row_)else(aA (.int (-1))))
def ag0 (e:CT)(row_:V):M V:=aB (aJ (.int 0) row_) λa=>aB (aB (aK .Eq a (.int 3)) λb=>bV .Or b (aB (aK .Eq a (.int 18)) λc=>bV .Or c (ret false) (ret c)) (ret b)) λd=>if d then(aA (.int 6))else(vJ e a row_)
theorem vL (n:Nat)(row_:V):aD (n+1) (.fn 67 0) [row_]=ag0 (aD n) row_:=(aO (f:=(aT 67 0).get rfl) rfl).trans (by ext)
abbrev mO (j:CT)(tab_ a:V):M V:=aB (aR (S "index") tab_) λb=>aB (bF (S "get") b) λc=>aQ (cA (.int (-1))) λd=>aB (iA d a) λe=>aB (i8 .Add e (.tup [(.int 0)])) λf=>cI (cG c) f λg=>cI (cG c) (.int (-1)) λh=>aB (bD j c (S "get") b [g,h]) λi=>aA i
def q7 (h:CT)(tab_ t_:V):M V:=aB (aR (S "rows") tab_) λa=>aB (aJ t_ a) λb=>aB (aB (aB (aJ (.int 0) b) λc=>aK .In c (.tup [(.int 2),(.int 3),(.int 4),(.int 5),(.int 8)])) λd=>bV .And d (aB (aB (aJ (.int (-1)) b) λe=>aK .Eq e (.int 1)) λf=>bV .And f (ret true) (ret f)) (ret d)) λg=>if g then(mO h tab_ b)else(aA (.int (-1)))
theorem vW (n:Nat)(tab_ t_:V):aD (n+1) (.fn 68 0) [tab_,t_]=q7 (aD n) tab_ t_:=(aO (f:=(aT 68 0).get rfl) rfl).trans (by ext)
def wG (j:CT)(got_:V):M V:=aB (aB (aB (aK .In (.int 8) got_) λa=>bV .Or a (aB (aK .In (.int 14) got_) λb=>bV .Or b (ret false) (ret b)) (ret a)) λc=>bV .And c (aB (aB (aK .In (.int 9) got_) λd=>bV .Or d (aB (aK .In (.int 15) got_) λe=>bV .Or e (ret false) (ret e)) (ret d)) λf=>bV .And f (ret true) (ret f)) (ret c)) λg=>if g then(aB (b7 (.int 8) (.int 1) got_) λh=>aB (b7 (.int 9) (.int 1) got_) λi=>ret .none)else(ret .none)
theorem ab4 (n:Nat)(got_:V):aD (n+1) (.fn 69 0) [got_]=wG (aD n) got_:=(aO (f:=(aT 69 0).get rfl) rfl).trans (by ext)
abbrev vT (f:CT)(tab_ t_ got_:V):M V:=aB (aB (aR (S "rows") tab_) λa=>aB (aJ t_ a) λb=>aB (aA b) λc=>aB (f (.fn 67 0) [c]) λd=>aK .NotIn d got_) λe=>aA (.bool e)
def qW (e:CT)(tab_ got_ t_:V):M V:=aB (aB (aA tab_) λa=>aB (aA t_) λb=>aB (e (.fn 68 0) [a,b]) λc=>aK .In c got_) λd=>if d then(aA (.bool false))else(vT e tab_ t_ got_)
theorem vU (n:Nat)(tab_ got_ t_:V):aD (n+1) (.fn 70 0) [tab_,got_,t_]=qW (aD n) tab_ got_ t_:=(aO (f:=(aT 70 0).get rfl) rfl).trans (by ext)
def qU (f:CT):V→LE→(LE→M V)→M V:=λa b c=>aB (aQ (b (S "got")) λd=>aK .In a d) λe=>if e then(aA a)else(c (upd b (S "t") a))
def aL9 (b:CT):LE→M V:=λa=>aA (.int (-1))
def aM1 (b:CT)(got_:V):M V:=aB (bU (.tup [(.int 0),(.int 13),(.int 1)])) λa=>b9 (still a (aP (.tup [(.int 0),(.int 13),(.int 1)]))) (qU b) a (upd e0 (S "got") got_) (aL9 b)
theorem aM0 (n:Nat)(got_:V):aD (n+1) (.fn 71 0) [got_]=aM1 (aD n) got_:=(aO (f:=(aT 71 0).get rfl) rfl).trans (by ext)
def ag7 (f:CT):V→LE→(LE→M V)→M V:=λa b c=>aQ (b (S "got")) λd=>aB (b7 a (.int 1) d) λe=>c (upd b (S "part") a)
def aV1 (c:CT)(a:LE→M V):LE→M V:=λb=>a b
def o6 (i:CT):V→LE→(LE→M V)→M V:=λa b c=>aQ (b (S "tab")) λd=>aB (aA d) λe=>aB (aA a) λf=>aB (i (.fn 66 0) [e,f]) λg=>aB (bU g) λh=>b9 (still h (aP g)) (ag7 i) h (upd b (S "t") a) (aV1 i c)
def uQ (j:CT)(a:LE):V→M (Option V):=λb=>aB (aQ (a (S "tab")) λc=>aB (aA c) λd=>aQ (a (S "got")) λe=>aB (aA e) λf=>aB (aA b) λg=>aB (j (.fn 70 0) [d,f,g]) λh=>aS h) λi=>if i then(ret (some b))else ret Option.none
abbrev ag5 (i:CT)(a:LE)(b:List V):M V:=aQ (a (S "tab")) λc=>aB (bF (S "put") c) λd=>aB (tyV "tuple" [(.lst b)]) λe=>aB (aA e) λf=>cI (cG d) (.tup [(.int 6),f]) λg=>aB (bD i d (S "put") c [g]) λh=>aA h
abbrev ag4 (h:CT)(a:List V)(b:LE):M V:=aB (aB (jG "len" [(.lst a)]) λc=>aK .Eq c (.int 1)) λd=>if d then(aB (aJ (.int 0) (.lst a)) λe=>aA e)else(aB (aB (jG "len" [(.lst a)]) λf=>aK .Gt f (.int 400)) λg=>if g then(fail)else(ag5 h b a))
abbrev ag3 (k:CT)(a:LE):M V:=aQ (a (S "got")) λb=>aB (aA b) λc=>aB (k (.fn 69 0) [c]) λd=>aQ (a (S "got")) λe=>aB (jG "sorted" [e]) λf=>aB (c8 f) λg=>aB (bK (still g (aP f)) (uQ k a) g) λh=>aB (aB (aS (.lst h)) λi=>ret !i) λj=>if j then(aA (.int 2))else(ag4 k h a)
def ag6 (f:CT):LE→M V:=λa=>aQ (a (S "got")) λb=>aB (aA b) λc=>aB (f (.fn 71 0) [c]) λd=>aB (aK .GtE d (.int 0)) λe=>if e then(aA d)else(ag3 f a)
def bc5 (c:CT)(tab_ parts_:V):M V:=aB (bN (.dict [])) λa=>aB (bU parts_) λb=>b9 (still b (aP parts_)) (o6 c) b (upd (upd (upd e0 (S "tab") tab_) (S "parts") parts_) (S "got") a) (ag6 c)
theorem aV2 (n:Nat)(tab_ parts_:V):aD (n+1) (.fn 72 0) [tab_,parts_]=bc5 (aD n) tab_ parts_:=(aO (f:=(aT 72 0).get rfl) rfl).trans (by ext)
def wH (e:CT)(tab_ t_:V):M V:=aB (aB (aR (S "rows") tab_) λa=>aB (aJ t_ a) λb=>aB (aJ (.int 0) b) λc=>aK .In c (.tup [(.int 2),(.int 3),(.int 4),(.int 5)])) λd=>aA (.bool d)
theorem ab5 (n:Nat)(tab_ t_:V):aD (n+1) (.fn 73 0) [tab_,t_]=wH (aD n) tab_ t_:=(aO (f:=(aT 73 0).get rfl) rfl).trans (by ext)
def ak5 (i:CT)(tab_ t_:V):M V:=aB (aR (S "rows") tab_) λa=>aB (aJ t_ a) λb=>aB (aB (aB (aJ (.int 0) b) λc=>aK .In c (.tup [(.int 2),(.int 3),(.int 4),(.int 5),(.int 8)])) λd=>aB (aS (.bool d)) λe=>bV .And e (aB (aB (aJ (.int (-1)) b) λf=>aK .Eq f (.int 1)) λg=>ret (.bool g)) (ret (.bool d))) λh=>aA h
theorem aw2 (n:Nat)(tab_ t_:V):aD (n+1) (.fn 74 0) [tab_,t_]=ak5 (aD n) tab_ t_:=(aO (f:=(aT 74 0).get rfl) rfl).trans (by ext)
abbrev nS (i:CT)(tab_ t_:V):M V:=aB (bF (S "put") tab_) λa=>aB (aR (S "rows") tab_) λb=>aB (aJ t_ b) λc=>aQ (cA (.int (-1))) λd=>aB (iA d c) λe=>aB (i8 .Add e (.tup [(.int 0)])) λf=>cI (cG a) f λg=>aB (bD i a (S "put") tab_ [g]) λh=>aA h
def tJ (e:CT)(tab_ t_:V):M V:=aB (aB (aA tab_) λa=>aB (aA t_) λb=>aB (e (.fn 74 0) [a,b]) λc=>aS c) λd=>if d then(nS e tab_ t_)else(aA t_)
theorem xR (n:Nat)(tab_ t_:V):aD (n+1) (.fn 75 0) [tab_,t_]=tJ (aD n) tab_ t_:=(aO (f:=(aT 75 0).get rfl) rfl).trans (by ext)
def vY (e:CT)(tab_:V):V→M (Option V):=λa=>aB (aA tab_) λb=>aB (aA a) λc=>aB (e (.fn 75 0) [b,c]) λd=>ret (some d)
abbrev vX (h:CT)(tab_ t_:V):M V:=aB (aA tab_) λa=>aB (aA tab_) λb=>aB (aA t_) λc=>aB (h (.fn 66 0) [b,c]) λd=>aB (c8 d) λe=>aB (bK (still e (aP d)) (vY h tab_) e) λf=>aB (h (.fn 72 0) [a,(.lst f)]) λg=>aA g
def xS (h:CT)(tab_ t_:V):M V:=aB (aB (aA tab_) λa=>aB (aA t_) λb=>aB (h (.fn 60 0) [a,b]) λc=>aK .Eq c (.int 6)) λd=>if d then(vX h tab_ t_)else(aB (aA tab_) λe=>aB (aA t_) λf=>aB (h (.fn 75 0) [e,f]) λg=>aA g)
theorem vZ (n:Nat)(tab_ t_:V):aD (n+1) (.fn 76 0) [tab_,t_]=xS (aD n) tab_ t_:=(aO (f:=(aT 76 0).get rfl) rfl).trans (by ext)
abbrev aM4 (e:CT)(t_:V):M V:=aB (bF (S "get") (.dct [(.int 3),(.int 4),(.int 5),(.int 6),(.int 7),(.int 10)] [(.int 6),(.int 5),(.int 4),(.int 1),(.int 2),(.int 7)])) λa=>cI (cG a) t_ λb=>cI (cG a) (.int 0) λc=>aB (bD e a (S "get") (.dct [(.int 3),(.int 4),(.int 5),(.int 6),(.int 7),(.int 10)] [(.int 6),(.int 5),(.int 4),(.int 1),(.int 2),(.int 7)]) [b,c]) λd=>aA d
abbrev aM3 (g:CT)(a:V):M V:=aB (aA a) λb=>aB (g (.fn 67 0) [b]) λc=>aB (aK .Lt c (.int 0)) λd=>if d then(aA (.int 0))else(aB (aB (aK .Eq c (.int 6)) λe=>if e then(ret (.int 1))else(ret (.int 2))) λf=>aA f)
abbrev aM2 (f:CT)(a b:V):M V:=aB (aK .In a (.tup [(.int 8),(.int 9),(.int 11),(.int 12),(.int 13)])) λc=>if c then(aA (.int 7))else(aB (aK .Eq a (.int 6)) λd=>if d then(fail)else(aB (aK .Eq a (.int 7)) λe=>if e then(fail)else(aM3 f b)))
def aM6 (f:CT)(tab_ t_:V):M V:=aB (aR (S "rows") tab_) λa=>aB (aJ t_ a) λb=>aB (aJ (.int 0) b) λc=>aB (aK .Eq c (.int 1)) λd=>if d then(aM4 f t_)else(aB (aK .Eq c (.int 2)) λe=>if e then(aA (.int 3))else(aM2 f c b))
theorem aM5 (n:Nat)(tab_ t_:V):aD (n+1) (.fn 79 0) [tab_,t_]=aM6 (aD n) tab_ t_:=(aO (f:=(aT 79 0).get rfl) rfl).trans (by ext)
abbrev aa1 (f:CT)(tab_ s_ t_:V):M V:=aB (aB (aR (S "rows") tab_) λa=>aB (aJ s_ a) λb=>aB (aA b) λc=>aB (f (.fn 67 0) [c]) λd=>aK .Eq d t_) λe=>aA (.bool e)
abbrev aa0 (d:CT)(s_ t_ tab_:V):M V:=aB (aB (aK .Eq s_ (.int 4)) λa=>bV .And a (aB (aK .Eq t_ (.int 3)) λb=>bV .And b (ret true) (ret b)) (ret a)) λc=>if c then(aA (.bool true))else(aa1 d tab_ s_ t_)
def v0 (g:CT)(tab_ s_ t_:V):M V:=aB (aB (aK .Eq s_ t_) λa=>bV .Or a (aB (aK .In t_ (.tup [(.int 0),(.int 1),(.int 13)])) λb=>bV .Or b (aB (aK .In s_ (.tup [(.int 2),(.int 13)])) λc=>bV .Or c (ret false) (ret c)) (ret b)) (ret a)) λd=>if d then(aA (.bool true))else(aB (aK .Eq s_ (.int 0)) λe=>if e then(aB (aK .NotEq t_ (.int 2)) λf=>aA (.bool f))else(aa0 g s_ t_ tab_))
theorem aa2 (n:Nat)(tab_ s_ t_:V):aD (n+1) (.fn 81 0) [tab_,s_,t_]=v0 (aD n) tab_ s_ t_:=(aO (f:=(aT 81 0).get rfl) rfl).trans (by ext)
def fF (k:CT):V→LE→(LE→M V)→M V:=λa b c=>aB (aQ (b (S "tab")) λd=>aB (aA d) λe=>aQ (b (S "part")) λf=>aB (aA f) λg=>aB (aA a) λh=>aB (k (.fn 81 0) [e,g,h]) λi=>aS i) λj=>if j then(c (upd (upd b (S "other") a) (S "held") (.bool true)))else(c (upd b (S "other") a))
abbrev pS (i:CT)(a:LE)(b:LE→M V):M V:=aB (aB (aQ (a (S "part")) λc=>aK .Eq c (.int 0)) λd=>bV .And d (aB (aQ (a (S "t")) λe=>aK .NotIn e (.tup [(.int 0),(.int 1),(.int 13)])) λf=>bV .And f (ret true) (ret f)) (ret d)) λg=>if g then(aB (bN (.list [(.int 1)])) λh=>b (upd a (S "codes") h))else(b a)
def gY (f:CT)(a:LE→M V):LE→M V:=λb=>aB (aB (aQ (b (S "held")) λc=>aS c) λd=>ret !d) λe=>if e then(aA (.tup [(.bool false),(.lst [])]))else(pS f b a)
def dC (j:CT):V→LE→(LE→M V)→M V:=λa b c=>aQ (b (S "tab")) λd=>aB (aA d) λe=>aQ (b (S "t")) λf=>aB (aA f) λg=>aB (j (.fn 66 0) [e,g]) λh=>aB (bU h) λi=>b9 (still i (aP h)) (fF j) i (upd (upd b (S "part") a) (S "held") (.bool false)) (gY j c)
def pU (d:CT):LE→M V:=λa=>aQ (a (S "codes")) λb=>aB (aA b) λc=>aA (.tup [(.bool true),c])
abbrev pT (l:CT)(tab_ t_:V)(s_ a:V):M V:=aB (aA tab_) λb=>aB (aA t_) λc=>aB (l (.fn 76 0) [b,c]) λd=>aB (aA tab_) λe=>aB (aA tab_) λf=>aB (aA s_) λg=>aB (l (.fn 76 0) [f,g]) λh=>aB (aA h) λi=>aB (l (.fn 66 0) [e,i]) λj=>aB (bU j) λk=>b9 (still k (aP j)) (dC l) k (upd (upd (upd (upd (upd e0 (S "tab") tab_) (S "s") s_) (S "t") t_) (S "codes") a) (S "t") d) (pU l)
def v8 (b:CT)(tab_ s_ t_:V):M V:=aB (bN (.list [])) λa=>pT b tab_ t_ s_ a
theorem aa3 (n:Nat)(tab_ s_ t_:V):aD (n+1) (.fn 82 0) [tab_,s_,t_]=v8 (aD n) tab_ s_ t_:=(aO (f:=(aT 82 0).get rfl) rfl).trans (by ext)
def nT (c:CT)(s_ t_:V):M Bool:=aB (aK .Eq s_ (.int 2)) λa=>bV .Or a (aB (aK .Eq t_ (.int 2)) λb=>bV .Or b (ret false) (ret b)) (ret a)
def jD (q:CT)(a:LE)(b:V):M Bool:=aB (aQ (a (S "tab")) λc=>aB (aA c) λd=>aQ (a (S "part")) λe=>aB (aA e) λf=>aB (aA b) λg=>aB (q (.fn 81 0) [d,f,g]) λh=>aS h) λi=>bV .Or i (aB (aQ (a (S "tab")) λj=>aB (aA j) λk=>aB (aA b) λl=>aQ (a (S "part")) λm=>aB (aA m) λn=>aB (q (.fn 81 0) [k,l,n]) λo=>aS o) λp=>bV .Or p (ret false) (ret p)) (ret i)
def dJ (e:CT):V→LE→(LE→M V)→M V:=λa b c=>aB ((jD e b a)) λd=>if d then(aA (.bool true))else(c (upd b (S "other") a))
def nV (c:CT)(a:LE→M V):LE→M V:=λb=>a b
def dI (n:CT):V→LE→(LE→M V)→M V:=λa b c=>aQ (b (S "tab")) λd=>aB (aA d) λe=>aQ (b (S "tab")) λf=>aB (aA f) λg=>aQ (b (S "t")) λh=>aB (aA h) λi=>aB (n (.fn 76 0) [g,i]) λj=>aB (aA j) λk=>aB (n (.fn 66 0) [e,k]) λl=>aB (bU l) λm=>b9 (still m (aP l)) (dJ n) m (upd b (S "part") a) (nV n c)
def xX (b:CT):LE→M V:=λa=>aA (.bool false)
abbrev nU (h:CT)(tab_ s_ t_:V):M V:=aB (aA tab_) λa=>aB (aA tab_) λb=>aB (aA s_) λc=>aB (h (.fn 76 0) [b,c]) λd=>aB (aA d) λe=>aB (h (.fn 66 0) [a,e]) λf=>aB (bU f) λg=>b9 (still g (aP f)) (dI h) g (upd (upd (upd e0 (S "tab") tab_) (S "s") s_) (S "t") t_) (xX h)
def tL (b:CT)(tab_ s_ t_:V):M V:=aB ((nT b s_ t_)) λa=>if a then(aA (.bool true))else(nU b tab_ s_ t_)
theorem xY (n:Nat)(tab_ s_ t_:V):aD (n+1) (.fn 83 0) [tab_,s_,t_]=tL (aD n) tab_ s_ t_:=(aO (f:=(aT 83 0).get rfl) rfl).trans (by ext)
def xO (b:CT)(row_:V):M Bool:=aB (aJ (.int 0) row_) λa=>aK .NotEq a (.int 5)
abbrev xP (n:CT)(row_ tab_ parts_:V):M V:=aB (aB (aB (aJ (.int 3) row_) λa=>aB (jG "isinstance" [a,(.ty "str")]) λb=>aS b) λc=>if c then(ret (.int 3))else(ret (.int 4))) λd=>aB (aB (aR (S "index") tab_) λe=>aB (bF (S "get") e) λf=>aB (aA d) λg=>aB (aJ (.int 3) row_) λh=>aB (aA h) λi=>cI (cG f) (.tup [g,i,(.int 0)]) λj=>cI (cG f) (.int (-1)) λk=>aB (bD n f (S "get") e [j,k]) λl=>aK .In l parts_) λm=>aA (.bool m)
def m3 (b:CT)(tab_ row_ parts_:V):M V:=aB ((xO b row_)) λa=>if a then(aA (.bool false))else(xP b row_ tab_ parts_)
theorem xQ (n:Nat)(tab_ row_ parts_:V):aD (n+1) (.fn 85 0) [tab_,row_,parts_]=m3 (aD n) tab_ row_ parts_:=(aO (f:=(aT 85 0).get rfl) rfl).trans (by ext)
def qQ (d:CT)(t_:V):M Bool:=aB (aK .Eq t_ (.int 0)) λa=>bV .Or a (aB (aK .Eq t_ (.int 1)) λb=>bV .Or b (aB (aK .Eq t_ (.int 13)) λc=>bV .Or c (ret false) (ret c)) (ret b)) (ret a)
def qP (k:CT)(a b:V)(c:LE):M Bool:=aB (aB (aS a) λd=>ret !d) λe=>bV .And e (aB (aB (aB (aK .Eq b (.int 4)) λf=>bV .And f (aB (aQ (c (S "parts")) λg=>aK .In (.int 3) g) λh=>bV .And h (ret true) (ret h)) (ret f)) λi=>ret !i) λj=>bV .And j (ret true) (ret j)) (ret e)
abbrev qS (u:CT)(a:LE)(b c:V)(d:LE→M V):M V:=aB (aB (aQ (a (S "parts")) λe=>aK .In b e) λf=>aB (aS (.bool f)) λg=>bV .Or g (aB (aB (aA c) λh=>aB (u (.fn 67 0) [h]) λi=>aQ (a (S "parts")) λj=>aK .In i j) λk=>aB (aS (.bool k)) λl=>bV .Or l (aQ (a (S "tab")) λm=>aB (aA m) λn=>aB (aA c) λo=>aQ (a (S "parts")) λp=>aB (aA p) λq=>aB (u (.fn 85 0) [n,o,q]) λr=>ret r) (ret (.bool k))) (ret (.bool f))) λs=>aB ((qP u s b a)) λt=>if t then(aA (.bool false))else(d (upd (upd (upd a (S "part") b) (S "row") c) (S "held") s))
def eJ (g:CT):V→LE→(LE→M V)→M V:=λa b c=>aQ (b (S "tab")) λd=>aB (aR (S "rows") d) λe=>aB (aJ a e) λf=>qS g b a f c
def ag1 (b:CT):LE→M V:=λa=>aA (.bool true)
abbrev qR (n:CT)(tab_ t_ s_:V):M V:=aB (aA tab_) λa=>aB (aA tab_) λb=>aB (aA t_) λc=>aB (n (.fn 76 0) [b,c]) λd=>aB (aA d) λe=>aB (n (.fn 66 0) [a,e]) λf=>aB (aA tab_) λg=>aB (aA tab_) λh=>aB (aA s_) λi=>aB (n (.fn 76 0) [h,i]) λj=>aB (aA j) λk=>aB (n (.fn 66 0) [g,k]) λl=>aB (bU l) λm=>b9 (still m (aP l)) (eJ n) m (upd (upd (upd (upd e0 (S "tab") tab_) (S "s") s_) (S "t") t_) (S "parts") f) (ag1 n)
def yZ (b:CT)(tab_ s_ t_:V):M V:=aB ((qQ b t_)) λa=>if a then(aA (.bool true))else(qR b tab_ t_ s_)
theorem ag2 (n:Nat)(tab_ s_ t_:V):aD (n+1) (.fn 86 0) [tab_,s_,t_]=yZ (aD n) tab_ s_ t_:=(aO (f:=(aT 86 0).get rfl) rfl).trans (by ext)
def aG0 (a:CT)(self_ t_:V):M V:=aA t_
theorem ab7 (n:Nat)(self_ t_:V):aD (n+1) (.fn 90 2) [self_,t_]=aG0 (aD n) self_ t_:=(aO (f:=(aT 90 2).get rfl) rfl).trans (by ext)
abbrev aw7 (k:CT)(self_:V):M V:=aB (bN (.list [])) λa=>aB (bH (S "road") a self_) λb=>aB (bH (S "deep") (.int 0) self_) λc=>aB (bH (S "looks") (.int 0) self_) λd=>aB (jY k 7 []) λe=>aB (bH (S "notes") e self_) λf=>aB (bH (S "telling") (.bool true) self_) λg=>aB (bH (S "twin") V.none self_) λh=>aB (bH (S "missing") (.str (S "")) self_) λi=>aB (bH (S "at") (.int 0) self_) λj=>ret .none
def al6 (k:CT)(self_ host_ mode_:V):M V:=aB (bH (S "host") host_ self_) λa=>aB (bH (S "mode") mode_ self_) λb=>aB (bN (.dict [])) λc=>aB (bH (S "rules") c self_) λd=>aB (bN (.dict [])) λe=>aB (bH (S "assumed") e self_) λf=>aB (bN (.dict [])) λg=>aB (bH (S "known") g self_) λh=>aB (bN (.list [])) λi=>aB (bH (S "trail") i self_) λj=>aw7 k self_
theorem aw8 (n:Nat)(self_ host_ mode_:V):aD (n+1) (.fn 110 1) [self_,host_,mode_]=al6 (aD n) self_ host_ mode_:=(aO (f:=(aT 110 1).get rfl) rfl).trans (by ext)
def r9 (e:CT)(self_ s_ t_:V):M V:=aB (aA self_) λa=>aB (aA s_) λb=>aB (aA t_) λc=>aB (e (.fn 116 0) [a,b,c]) λd=>aA d
theorem pF (n:Nat)(self_ s_ t_:V):aD (n+1) (.fn 110 2) [self_,s_,t_]=r9 (aD n) self_ s_ t_:=(aO (f:=(aT 110 2).get rfl) rfl).trans (by ext)
def uE (b:CT)(self_:V):M Bool:=aB (aR (S "telling") self_) λa=>aS a
abbrev aw4 (g:CT)(self_ code_:V):M V:=aB (aR (S "notes") self_) λa=>aB (bF (S "put") a) λb=>cI (cG b) code_ λc=>aB (aR (S "at") self_) λd=>cI (cG b) d λe=>aB (bD g b (S "put") a [c,e]) λf=>ret .none
def al4 (b:CT)(self_ code_:V):M V:=aB ((uE b self_)) λa=>if a then(aw4 b self_ code_)else(ret .none)
theorem aw5 (n:Nat)(self_ code_:V):aD (n+1) (.fn 110 3) [self_,code_]=al4 (aD n) self_ code_:=(aO (f:=(aT 110 3).get rfl) rfl).trans (by ext)
def al5 (h:CT)(self_:V):M V:=aB (aR (S "notes") self_) λa=>aB (aR (S "rows") a) λb=>aB (jG "len" [b]) λc=>aB (aA c) λd=>aB (aR (S "trail") self_) λe=>aB (jG "len" [e]) λf=>aB (aA f) λg=>aA (.tup [d,g])
theorem aw6 (n:Nat)(self_:V):aD (n+1) (.fn 110 5) [self_]=al5 (aD n) self_:=(aO (f:=(aT 110 5).get rfl) rfl).trans (by ext)
def al7 (d:CT)(self_ spot_:V):M V:=aB (aA self_) λa=>aB (aA spot_) λb=>aB (d (.fn 114 0) [a,b]) λc=>ret .none
theorem aw9 (n:Nat)(self_ spot_:V):aD (n+1) (.fn 110 6) [self_,spot_]=al7 (aD n) self_ spot_:=(aO (f:=(aT 110 6).get rfl) rfl).trans (by ext)
def cP (g:CT):LE→M Bool:=λa=>aQ (a (S "rel")) λb=>aB (aR (S "trail") b) λc=>aB (jG "len" [c]) λd=>aQ (a (S "spot")) λe=>aB (aJ (.int 1) e) λf=>aK .Gt d f
def fJ (j:CT):LE→(LE→M V)→M V:=λa b=>aQ (a (S "rel")) λc=>aB (aR (S "assumed") c) λd=>aQ (a (S "rel")) λe=>aB (aR (S "trail") e) λf=>aB (bF (S "pop") f) λg=>aB (bD j g (S "pop") f []) λh=>aB (iW h d) λi=>b a
def aw3 (b:CT):LE→M V:=λa=>ret .none
def uT (f:CT)(rel_ spot_:V):M V:=aB (aR (S "notes") rel_) λa=>aB (aR (S "rows") a) λb=>aB (aJ (.int 0) spot_) λc=>aQ (cA c) λd=>aB (g9 d b) λe=>oR (cP f) (fJ f) 1000 (upd (upd e0 (S "rel") rel_) (S "spot") spot_) (aw3 f)
theorem uC (n:Nat)(rel_ spot_:V):aD (n+1) (.fn 114 0) [rel_,spot_]=uT (aD n) rel_ spot_:=(aO (f:=(aT 114 0).get rfl) rfl).trans (by ext)
def o8 (f:CT)(host_ a:V):M Bool:=aB (aR (S "tab") host_) λb=>aB (aA b) λc=>aB (aA a) λd=>aB (f (.fn 73 0) [c,d]) λe=>aS e
def az7 (i:CT)(host_ t_:V):M V:=aB (bF (S "force") host_) λa=>cI (cG a) t_ λb=>aB (bD i a (S "force") host_ [b]) λc=>aB ((o8 i host_ c)) λd=>if d then(aB (aR (S "tab") host_) λe=>aB (aA e) λf=>aB (aA c) λg=>aB (i (.fn 75 0) [f,g]) λh=>aA h)else(aA c)
theorem aF3 (n:Nat)(host_ t_:V):aD (n+1) (.fn 115 0) [host_,t_]=az7 (aD n) host_ t_:=(aO (f:=(aT 115 0).get rfl) rfl).trans (by ext)
def dL (b:CT)(rel_:V):M Bool:=aB (aR (S "mode") rel_) λa=>aK .Eq a (.int 3)
def ak8 (e:CT)(a b:V):M Bool:=aB (aK .Eq a (.int 13)) λc=>bV .Or c (aB (aK .Eq b (.int 13)) λd=>bV .Or d (ret false) (ret d)) (ret c)
def ak7 (j:CT)(a b c:V):M Bool:=aB (aB (aJ a b) λd=>aB (aJ (.int 0) d) λe=>aK .In e (.tup [(.int 1),(.int 2),(.int 3),(.int 4),(.int 5)])) λf=>bV .Or f (aB (aB (aJ c b) λg=>aB (aJ (.int 0) g) λh=>aK .In h (.tup [(.int 1),(.int 2),(.int 3),(.int 4),(.int 5)])) λi=>bV .Or i (ret false) (ret i)) (ret f)
abbrev al2 (i:CT)(a b:V)(c rel_:V):M V:=aB ((ak7 i a b c)) λd=>if d then(aA (.bool false))else(aB (aA rel_) λe=>aB (aA a) λf=>aB (aA c) λg=>aB (i (.fn 117 0) [e,f,g]) λh=>aA h)
abbrev al1 (g:CT)(rel_ a b:V):M V:=aB (aR (S "host") rel_) λc=>aB (aR (S "tab") c) λd=>aB (aR (S "rows") d) λe=>aB ((ak8 g a b)) λf=>if f then(aA (.bool true))else(al2 g a e b rel_)
def b8 (n:CT)(a rel_:V)(b c:V):M Bool:=aB (aK .Eq a (.int 1)) λd=>bV .Or d (aB (aB (aB (aR (S "mode") rel_) λe=>aK .Eq e (.int 2)) λf=>bV .And f (aB (aK .NotEq b (.int 2)) λg=>bV .And g (aB (aB (aA rel_) λh=>aB (aA b) λi=>aB (aA c) λj=>aB (n (.fn 120 0) [h,i,j]) λk=>aK .Eq k (.int 1)) λl=>bV .And l (ret true) (ret l)) (ret g)) (ret f)) λm=>bV .Or m (ret false) (ret m)) (ret d)
abbrev al0 (k:CT)(a rel_:V)(b c:V):M V:=aB (aB (aK .Lt a (.int 0)) λd=>aB (aS (.bool d)) λe=>bV .And e (aB (aA rel_) λf=>aB (aA b) λg=>aB (aA c) λh=>aB (k (.fn 117 0) [f,g,h]) λi=>ret i) (ret (.bool d))) λj=>aA j
abbrev ak9 (h:CT)(rel_ a b:V):M V:=aB (aA rel_) λc=>aB (aA a) λd=>aB (aA b) λe=>aB (h (.fn 120 0) [c,d,e]) λf=>aB ((b8 h f rel_ b a)) λg=>if g then(aA (.bool true))else(al0 h f rel_ a b)
abbrev al3 (k:CT)(rel_ s_ t_:V):M V:=aB (aR (S "host") rel_) λa=>aB (aA a) λb=>aB (aA s_) λc=>aB (k (.fn 115 0) [b,c]) λd=>aB (aR (S "host") rel_) λe=>aB (aA e) λf=>aB (aA t_) λg=>aB (k (.fn 115 0) [f,g]) λh=>aB (aK .Eq d h) λi=>if i then(aA (.bool true))else(aB ((dL k rel_)) λj=>if j then(al1 k rel_ d h)else(ak9 k rel_ d h))
def jU (b:CT)(rel_ s_ t_:V):M V:=aB (aK .Eq s_ t_) λa=>if a then(aA (.bool true))else(al3 b rel_ s_ t_)
theorem iO (n:Nat)(rel_ s_ t_:V):aD (n+1) (.fn 116 0) [rel_,s_,t_]=jU (aD n) rel_ s_ t_:=(aO (f:=(aT 116 0).get rfl) rfl).trans (by ext)
def iI (d:CT)(rel_ a b:V):M Bool:=aB (aR (S "known") rel_) λc=>aK .In (.tup [a,b]) c
def iH (d:CT)(rel_ a b:V):M Bool:=aB (aR (S "assumed") rel_) λc=>aK .In (.tup [a,b]) c
def iG (g:CT)(rel_:V):M Bool:=aB (aB (aR (S "looks") rel_) λa=>aK .GtE a (.int 20000)) λb=>bV .And b (aB (aB (aB (aA rel_) λc=>aB (g (.fn 119 0) [c]) λd=>aS d) λe=>ret !e) λf=>bV .And f (ret true) (ret f)) (ret b)
def iF (e:CT)(rel_:V):M Bool:=aB (aB (aR (S "deep") rel_) λa=>aK .GtE a (.int 60)) λb=>bV .Or b (aB (aB (aR (S "looks") rel_) λc=>aK .GtE c (.int 20000)) λd=>bV .Or d (ret false) (ret d)) (ret b)
def mG (c:CT)(a:V):M Bool:=aB (aS a) λb=>ret !b
def iE (f:CT)(a rel_:V):M Bool:=aB (aB (aJ (.int 1) a) λb=>aK .Eq b (.int 0)) λc=>bV .Or c (aB (aB (aR (S "mode") rel_) λd=>aK .NotEq d (.int 4)) λe=>bV .Or e (ret false) (ret e)) (ret c)
abbrev mL (k:CT)(rel_ a:V)(b c d:V):M V:=aB (aA rel_) λe=>aB (aA a) λf=>aB (k (.fn 114 0) [e,f]) λg=>aB ((iE k a rel_)) λh=>if h then(aB (aR (S "known") rel_) λi=>aB (b7 (.tup [b,c]) (.bool false) i) λj=>aA d)else(aA d)
def iD (c:CT)(a:V):M Bool:=aB (aJ (.int 1) a) λb=>aK .Eq b (.int 0)
abbrev mK (j:CT)(rel_ a b:V):M V:=aB (aA rel_) λc=>aB (aB (aR (S "notes") rel_) λd=>aB (aR (S "rows") d) λe=>aB (jG "len" [e]) λf=>aB (aJ (.int 0) a) λg=>aK .Eq f g) λh=>aB (j (.fn 118 0) [c,(.bool h)]) λi=>aA b
abbrev mN (p:CT)(rel_ s_:V)(t_ a:V)(b c:V):M V:=aB (aB (aB (aR (S "mode") rel_) λd=>aK .Eq d (.int 3)) λe=>if e then(fail)else(aB (aA rel_) λf=>aB (aA s_) λg=>aB (aA t_) λh=>aB (p (.fn 126 0) [f,g,h]) λi=>ret i)) λj=>aB (aR (S "deep") rel_) λk=>aB (jH .Sub k (.int 1)) λl=>aB (bH (S "deep") l rel_) λm=>aB ((mG p j)) λn=>if n then(mL p rel_ a b c j)else(aB ((iD p a)) λo=>if o then(mK p rel_ a j)else(aA j))
abbrev mM (n:CT)(rel_ a:V)(b s_ t_:V):M V:=aB (bF (S "mark") rel_) λc=>aB (bD n c (S "mark") rel_ []) λd=>aB (aR (S "assumed") rel_) λe=>aB (b7 (.tup [a,b]) (.int 1) e) λf=>aB (aR (S "trail") rel_) λg=>aB (bF (S "append") g) λh=>cI (cG h) (.tup [a,b]) λi=>aB (bD n h (S "append") g [i]) λj=>aB (aR (S "deep") rel_) λk=>aB (jH .Add k (.int 1)) λl=>aB (bH (S "deep") l rel_) λm=>mN n rel_ s_ t_ d a b
abbrev mJ (f:CT)(rel_ a:V)(b s_ t_:V):M V:=aB (aR (S "looks") rel_) λc=>aB (jH .Add c (.int 1)) λd=>aB (bH (S "looks") d rel_) λe=>mM f rel_ a b s_ t_
abbrev mI (g:CT)(rel_ a:V)(b s_ t_:V):M V:=aB ((iF g rel_)) λc=>if c then(aB (bF (S "note") rel_) λd=>cI (cG d) (.int 15) λe=>aB (bD g d (S "note") rel_ [e]) λf=>aA (.bool true))else(mJ g rel_ a b s_ t_)
abbrev mH (e:CT)(rel_ a:V)(b s_ t_:V):M V:=aB ((iH e rel_ a b)) λc=>if c then(aA (.bool true))else(aB ((iG e rel_)) λd=>if d then(aA (.bool false))else(mI e rel_ a b s_ t_))
def qZ (f:CT)(rel_ s_ t_:V):M V:=aB (aA s_) λa=>aB (aA t_) λb=>aB ((iI f rel_ a b)) λc=>if c then(aB (aR (S "known") rel_) λd=>aB (aJ (.tup [a,b]) d) λe=>aA e)else(mH f rel_ a b s_ t_)
theorem vV (n:Nat)(rel_ s_ t_:V):aD (n+1) (.fn 117 0) [rel_,s_,t_]=qZ (aD n) rel_ s_ t_:=(aO (f:=(aT 117 0).get rfl) rfl).trans (by ext)
def n3 (c:CT)(a:LE):M Bool:=aQ (a (S "clean")) λb=>aS b
def f8 (k:CT):V→LE→(LE→M V)→M V:=λa b c=>aQ (b (S "rel")) λd=>aB (aR (S "assumed") d) λe=>aB (iW a e) λf=>aB ((n3 k b)) λg=>if g then(aQ (b (S "rel")) λh=>aB (aR (S "known") h) λi=>aB (b7 a (.bool true) i) λj=>c (upd b (S "key") a))else(c (upd b (S "key") a))
def n6 (e:CT):LE→M V:=λa=>aB (bN (.list [])) λb=>aQ (a (S "rel")) λc=>aB (bH (S "trail") b c) λd=>ret .none
def uD (c:CT)(rel_ clean_:V):M V:=aB (aR (S "trail") rel_) λa=>aB (bU a) λb=>b9 (still b (aP a)) (f8 c) b (upd (upd e0 (S "rel") rel_) (S "clean") clean_) (n6 c)
theorem x8 (n:Nat)(rel_ clean_:V):aD (n+1) (.fn 118 0) [rel_,clean_]=uD (aD n) rel_ clean_:=(aO (f:=(aT 118 0).get rfl) rfl).trans (by ext)
def kL (e:CT)(a b:V):M Bool:=aB (aK .In a (.tup [(.int 6),(.int 7),(.int 10),(.int 14),(.int 15),(.int 16),(.int 17),(.int 18),(.int 19)])) λc=>bV .Or c (aB (aK .In b (.tup [(.int 6),(.int 7),(.int 10),(.int 14),(.int 15),(.int 16),(.int 17),(.int 18),(.int 19)])) λd=>bV .Or d (ret false) (ret d)) (ret c)
abbrev sZ (d:CT)(a:V):M V:=aB (aB (aK .In a (.tup [(.int 1),(.int 2),(.int 3),(.int 4),(.int 5)])) λb=>if b then(ret (.int 0))else(ret (.int (-1)))) λc=>aA c
abbrev sY (h:CT)(a rel_:V)(s_ t_:V):M V:=aB (aB (aK .In a (.tup [(.int 1),(.int 2),(.int 3),(.int 4),(.int 5)])) λb=>if b then(aB (aA rel_) λc=>aB (aA s_) λd=>aB (aA t_) λe=>aB (h (.fn 124 0) [c,d,e]) λf=>ret f)else(ret (.int 0))) λg=>aA g
def sW (d:CT)(s_:V):M Bool:=aB (aK .Eq s_ (.int 4)) λa=>bV .Or a (aB (aK .Eq s_ (.int 5)) λb=>bV .Or b (aB (aK .Eq s_ (.int 3)) λc=>bV .Or c (ret false) (ret c)) (ret b)) (ret a)
abbrev sX (e:CT)(a b:V)(rel_ s_ t_:V):M V:=aB (aK .In a (.tup [(.int 1),(.int 2),(.int 3),(.int 4),(.int 5)])) λc=>if c then(sY e b rel_ s_ t_)else(aB ((sW e s_)) λd=>if d then(aA (.int 0))else(aA (.int (-1))))
abbrev tA (j:CT)(rel_ s_ t_:V):M V:=aB (aR (S "host") rel_) λa=>aB (aR (S "tab") a) λb=>aB (aR (S "rows") b) λc=>aB (aJ s_ c) λd=>aB (aJ (.int 0) d) λe=>aB (aJ t_ c) λf=>aB (aJ (.int 0) f) λg=>aB ((kL j e g)) λh=>if h then(aA (.int (-1)))else(aB (aK .Eq t_ (.int 10)) λi=>if i then(sZ j e)else(sX j g e rel_ s_ t_))
def nR (f:CT)(rel_ s_ t_:V):M V:=aB (aA rel_) λa=>aB (aA s_) λb=>aB (aA t_) λc=>aB (f (.fn 121 0) [a,b,c]) λd=>aB (aK .GtE d (.int 0)) λe=>if e then(aA d)else(tA f rel_ s_ t_)
theorem tB (n:Nat)(rel_ s_ t_:V):aD (n+1) (.fn 120 0) [rel_,s_,t_]=nR (aD n) rel_ s_ t_:=(aO (f:=(aT 120 0).get rfl) rfl).trans (by ext)
def mF (e:CT)(t_ s_:V):M Bool:=aB (aK .Eq t_ (.int 0)) λa=>bV .Or a (aB (aK .Eq t_ (.int 13)) λb=>bV .Or b (aB (aK .Eq s_ (.int 2)) λc=>bV .Or c (aB (aK .Eq s_ (.int 13)) λd=>bV .Or d (ret false) (ret d)) (ret c)) (ret b)) (ret a)
def mE (d:CT)(s_ rel_:V):M Bool:=aB (aK .Eq s_ (.int 0)) λa=>bV .And a (aB (aB (aR (S "mode") rel_) λb=>aK .Eq b (.int 4)) λc=>bV .And c (ret true) (ret c)) (ret a)
abbrev vR (e:CT)(t_ rel_:V):M V:=aB (aK .Eq t_ (.int 2)) λa=>if a then(aA (.int 0))else(aB (bF (S "note") rel_) λb=>cI (cG b) (.int 1) λc=>aB (bD e b (S "note") rel_ [c]) λd=>aA (.int 1))
def mD (h:CT)(t_ rel_ s_:V):M Bool:=aB (aK .Eq t_ (.int 2)) λa=>bV .And a (aB (aB (aR (S "host") rel_) λb=>aB (aR (S "tab") b) λc=>aB (aR (S "rows") c) λd=>aB (aJ s_ d) λe=>aB (aJ (.int 0) e) λf=>aK .NotIn f (.tup [(.int 6),(.int 7),(.int 10),(.int 14),(.int 15),(.int 16),(.int 17),(.int 18),(.int 19)])) λg=>bV .And g (ret true) (ret g)) (ret a)
abbrev vQ (f:CT)(s_ rel_ t_:V):M V:=aB (aK .Eq s_ (.int 1)) λa=>if a then(aB (aA rel_) λb=>aB (aA t_) λc=>aB (f (.fn 122 0) [b,c]) λd=>aA d)else(aB ((mD f t_ rel_ s_)) λe=>if e then(aA (.int 0))else(aA (.int (-1))))
abbrev vP (c:CT)(t_ s_ rel_:V):M V:=aB (aK .Eq t_ (.int 1)) λa=>if a then(aA (.int 1))else(aB (aK .Eq s_ (.int 0)) λb=>if b then(vR c t_ rel_)else(vQ c s_ rel_ t_))
def qT (c:CT)(rel_ s_ t_:V):M V:=aB ((mF c t_ s_)) λa=>if a then(aA (.int 1))else(aB ((mE c s_ rel_)) λb=>if b then(aA (.int 0))else(vP c t_ s_ rel_))
theorem vS (n:Nat)(rel_ s_ t_:V):aD (n+1) (.fn 121 0) [rel_,s_,t_]=qT (aD n) rel_ s_ t_:=(aO (f:=(aT 121 0).get rfl) rfl).trans (by ext)
def iC (f:CT)(rel_ t_:V):M Bool:=aB (aR (S "host") rel_) λa=>aB (aR (S "tab") a) λb=>aB (aR (S "rows") b) λc=>aB (aJ t_ c) λd=>aB (aJ (.int 0) d) λe=>aK .In e (.tup [(.int 10),(.int 14),(.int 15),(.int 16),(.int 17),(.int 18),(.int 19)])
def iB (b:CT)(rel_:V):M Bool:=aB (aR (S "mode") rel_) λa=>aK .Eq a (.int 4)
abbrev vN (g:CT)(a:V):M V:=aB (aB (aB (aK .In (.int 11) a) λb=>bV .And b (aB (aK .In (.int 5) a) λc=>bV .And c (aB (aK .In (.int 4) a) λd=>bV .And d (ret true) (ret d)) (ret c)) (ret b)) λe=>if e then(ret (.int 1))else(ret (.int 0))) λf=>aA f
abbrev vM (g:CT)(rel_ t_:V):M V:=aB (aR (S "host") rel_) λa=>aB (aR (S "tab") a) λb=>aB (aA b) λc=>aB (aA t_) λd=>aB (g (.fn 66 0) [c,d]) λe=>aB ((iB g rel_)) λf=>if f then(aA (.int 0))else(vN g e)
def qO (b:CT)(rel_ t_:V):M V:=aB ((iC b rel_ t_)) λa=>if a then(aA (.int (-1)))else(vM b rel_ t_)
theorem vO (n:Nat)(rel_ t_:V):aD (n+1) (.fn 122 0) [rel_,t_]=qO (aD n) rel_ t_:=(aO (f:=(aT 122 0).get rfl) rfl).trans (by ext)
def mP (h:CT)(row_:V):M V:=aB (aB (aB (aJ (.int 0) row_) λa=>aK .Eq a (.int 5)) λb=>aB (aS (.bool b)) λc=>bV .And c (aB (aB (aA row_) λd=>aB (h (.fn 67 0) [d]) λe=>aK .Eq e (.int 7)) λf=>ret (.bool f)) (ret (.bool b))) λg=>aA g
theorem rG (n:Nat)(row_:V):aD (n+1) (.fn 123 0) [row_]=mP (aD n) row_:=(aO (f:=(aT 123 0).get rfl) rfl).trans (by ext)
def kK (h:CT)(a t_:V):M Bool:=aB (aB (aA a) λb=>aB (h (.fn 67 0) [b]) λc=>aK .Eq c t_) λd=>bV .And d (aB (aB (aA a) λe=>aB (h (.fn 67 0) [e]) λf=>aK .GtE f (.int 0)) λg=>bV .And g (ret true) (ret g)) (ret d)
def kJ (g:CT)(rel_ a s_:V):M Bool:=aB (aB (aR (S "mode") rel_) λb=>aK .Eq b (.int 2)) λc=>bV .And c (aB (aB (aA a) λd=>aB (g (.fn 67 0) [d]) λe=>aK .Eq e s_) λf=>bV .And f (ret true) (ret f)) (ret c)
def kH (j:CT)(a b:V):M Bool:=aB (aB (aJ (.int 0) a) λc=>aK .Eq c (.int 5)) λd=>bV .And d (aB (aB (aJ (.int 0) b) λe=>aK .Eq e (.int 5)) λf=>bV .And f (aB (aB (aJ (.int 1) a) λg=>aB (aJ (.int 1) b) λh=>aK .Eq g h) λi=>bV .And i (ret true) (ret i)) (ret f)) (ret d)
abbrev sT (g:CT)(a b:V):M V:=aB (aB (aB (aJ (.int 3) a) λc=>aB (aJ (.int 3) b) λd=>aK .Eq c d) λe=>if e then(ret (.int 1))else(ret (.int 0))) λf=>aA f
def gG (c:CT)(a:V):M Bool:=aB (aJ (.int 0) a) λb=>aK .Eq b (.int 5)
abbrev sS (o:CT)(a b:V):M V:=aB (aB (aB (aB (aJ (.int 0) a) λc=>aK .In c (.tup [(.int 3),(.int 4)])) λd=>bV .And d (aB (aB (aA a) λe=>aB (o (.fn 67 0) [e]) λf=>aB (aA b) λg=>aB (o (.fn 67 0) [g]) λh=>aK .Eq f h) λi=>bV .And i (aB (aB (aJ (.int 1) a) λj=>aB (aJ (.int 3) b) λk=>aK .Eq j k) λl=>bV .And l (ret true) (ret l)) (ret i)) (ret d)) λm=>if m then(ret (.int 1))else(ret (.int 0))) λn=>aA n
abbrev sR (h:CT)(rel_ s_:V)(a b:V):M V:=aB (aA rel_) λc=>aB (aA s_) λd=>aB (aA a) λe=>aB (aA b) λf=>aB (h (.fn 125 0) [c,d,e,f]) λg=>aA g
abbrev sQ (e:CT)(a b:V)(rel_ s_:V):M V:=aB ((kH e a b)) λc=>if c then(sT e a b)else(aB ((gG e a)) λd=>if d then(sS e b a)else(sR e rel_ s_ a b))
abbrev sU (k:CT)(rel_ s_ t_:V):M V:=aB (aR (S "host") rel_) λa=>aB (aR (S "tab") a) λb=>aB (aR (S "rows") b) λc=>aB (aJ s_ c) λd=>aB (aR (S "host") rel_) λe=>aB (aR (S "tab") e) λf=>aB (aR (S "rows") f) λg=>aB (aJ t_ g) λh=>aB ((kK k d t_)) λi=>if i then(aA (.int 1))else(aB ((kJ k rel_ h s_)) λj=>if j then(aA (.int 1))else(sQ k d h rel_ s_))
def nQ (d:CT)(rel_ s_ t_:V):M V:=aB (aK .Eq s_ (.int 4)) λa=>if a then(aB (aB (aK .Eq t_ (.int 3)) λb=>if b then(ret (.int 1))else(ret (.int 0))) λc=>aA c)else(sU d rel_ s_ t_)
theorem sV (n:Nat)(rel_ s_ t_:V):aD (n+1) (.fn 124 0) [rel_,s_,t_]=nQ (aD n) rel_ s_ t_:=(aO (f:=(aT 124 0).get rfl) rfl).trans (by ext)
def kN (g:CT)(rel_ b_:V):M Bool:=aB (aB (aR (S "mode") rel_) λa=>aK .Eq a (.int 4)) λb=>bV .Or b (aB (aB (aB (aA b_) λc=>aB (g (.fn 123 0) [c]) λd=>aS d) λe=>ret !e) λf=>bV .Or f (ret false) (ret f)) (ret b)
def kM (h:CT)(s_ a_ b_:V):M Bool:=aB (aK .Eq s_ (.int 7)) λa=>bV .Or a (aB (aB (aB (aJ (.int 0) a_) λb=>aK .Eq b (.int 4)) λc=>bV .And c (aB (aB (aJ (.int 1) a_) λd=>aB (aJ (.int 3) b_) λe=>aK .Eq d e) λf=>bV .And f (ret true) (ret f)) (ret c)) λg=>bV .Or g (ret false) (ret g)) (ret a)
abbrev tC (e:CT)(s_ a_:V)(b_ rel_:V):M V:=aB ((kM e s_ a_ b_)) λa=>if a then(aB (bF (S "note") rel_) λb=>cI (cG b) (.int 10) λc=>aB (bD e b (S "note") rel_ [c]) λd=>aA (.int 1))else(aA (.int 0))
def nY (b:CT)(rel_ s_ a_ b_:V):M V:=aB ((kN b rel_ b_)) λa=>if a then(aA (.int 0))else(tC b s_ a_ b_ rel_)
theorem tD (n:Nat)(rel_ s_ a_ b_:V):aD (n+1) (.fn 125 0) [rel_,s_,a_,b_]=nY (aD n) rel_ s_ a_ b_:=(aO (f:=(aT 125 0).get rfl) rfl).trans (by ext)
abbrev z9 (g:CT)(a rel_:V)(s_ t_:V):M V:=aB (aK .Eq a (.int 6)) λb=>if b then(aB (aA rel_) λc=>aB (aA s_) λd=>aB (aA t_) λe=>aB (g (.fn 131 0) [c,d,e]) λf=>aA f)else(fail)
def o7 (m:CT)(rel_ s_ t_:V):M V:=aB (aR (S "host") rel_) λa=>aB (aR (S "tab") a) λb=>aB (aR (S "rows") b) λc=>aB (aJ s_ c) λd=>aB (aJ (.int 0) d) λe=>aB (aJ t_ c) λf=>aB (aJ (.int 0) f) λg=>aB (aK .Eq e (.int 6)) λh=>if h then(aB (aA rel_) λi=>aB (aA s_) λj=>aB (aA t_) λk=>aB (m (.fn 128 0) [i,j,k]) λl=>aA l)else(z9 m g rel_ s_ t_)
theorem pR (n:Nat)(rel_ s_ t_:V):aD (n+1) (.fn 126 0) [rel_,s_,t_]=o7 (aD n) rel_ s_ t_:=(aO (f:=(aT 126 0).get rfl) rfl).trans (by ext)
def j8 (i:CT)(a:LE)(b:V):M Bool:=aQ (a (S "rel")) λc=>aB (bF (S "ask") c) λd=>cI (cG d) b λe=>aQ (a (S "t")) λf=>cI (cG d) f λg=>aB (bD i d (S "ask") c [e,g]) λh=>aS h
def j7 (d:CT)(a:LE):M Bool:=aQ (a (S "rel")) λb=>aB (aR (S "mode") b) λc=>aK .Eq c (.int 2)
def j6 (d:CT)(a:LE):M Bool:=aQ (a (S "rel")) λb=>aB (aR (S "mode") b) λc=>aK .NotEq c (.int 2)
def dU (g:CT):V→LE→(LE→M V)→M V:=λa b c=>aB ((j8 g b a)) λd=>if d then(aB ((j7 g b)) λe=>if e then(aA (.bool true))else(c (upd b (S "part") a)))else(aB ((j6 g b)) λf=>if f then(aA (.bool false))else(c (upd b (S "part") a)))
def p7 (e:CT):LE→M V:=λa=>aB (aQ (a (S "rel")) λb=>aB (aR (S "mode") b) λc=>aK .NotEq c (.int 2)) λd=>aA (.bool d)
def wI (g:CT)(rel_ s_ t_:V):M V:=aB (aR (S "host") rel_) λa=>aB (aR (S "tab") a) λb=>aB (aA b) λc=>aB (aA s_) λd=>aB (g (.fn 66 0) [c,d]) λe=>aB (bU e) λf=>b9 (still f (aP e)) (dU g) f (upd (upd (upd e0 (S "rel") rel_) (S "s") s_) (S "t") t_) (p7 g)
theorem ab6 (n:Nat)(rel_ s_ t_:V):aD (n+1) (.fn 128 0) [rel_,s_,t_]=wI (aD n) rel_ s_ t_:=(aO (f:=(aT 128 0).get rfl) rfl).trans (by ext)
def lN (i:CT)(a:LE)(b:V):M Bool:=aQ (a (S "rel")) λc=>aB (bF (S "ask") c) λd=>aQ (a (S "s")) λe=>cI (cG d) e λf=>cI (cG d) b λg=>aB (bD i d (S "ask") c [f,g]) λh=>aS h
def lM (h:CT)(a:LE)(b:V):M Bool:=aQ (a (S "rel")) λc=>aB (aR (S "notes") c) λd=>aB (aR (S "rows") d) λe=>aB (jG "len" [e]) λf=>aB (aJ (.int 0) b) λg=>aK .Eq f g
def lL (c:CT)(a:LE):M Bool:=aQ (a (S "lax")) λb=>aK .Is b V.none
abbrev ah3 (v:CT)(a:LE)(b:V)(c:LE→M V)(d:V):M V:=aQ (a (S "rel")) λe=>aB (aR (S "notes") e) λf=>aB (aR (S "rows") f) λg=>aB (aJ (.int 0) b) λh=>aQ (cA h) λi=>aB (fY i g) λj=>aB (aA j) λk=>aQ (a (S "rel")) λl=>aB (aR (S "trail") l) λm=>aB (aJ (.int 1) b) λn=>aQ (cA n) λo=>aB (fY o m) λp=>aB (aA p) λq=>aQ (a (S "rel")) λr=>aB (bF (S "back") r) λs=>cI (cG s) b λt=>aB (bD v s (S "back") r [t]) λu=>c (upd (upd (upd a (S "part") d) (S "spot") b) (S "lax") (.tup [k,q]))
abbrev ah2 (i:CT)(a:LE)(b:V)(c:LE→M V)(d:V):M V:=aQ (a (S "rel")) λe=>aB (bF (S "back") e) λf=>cI (cG f) b λg=>aB (bD i f (S "back") e [g]) λh=>c (upd (upd a (S "part") d) (S "spot") b)
abbrev ah1 (g:CT)(a:LE)(b:V)(c:LE→M V)(d:V):M V:=aB ((lM g a b)) λe=>if e then(aA (.bool true))else(aB ((lL g a)) λf=>if f then(ah3 g a b c d)else(ah2 g a b c d))
def c6 (h:CT):V→LE→(LE→M V)→M V:=λa b c=>aQ (b (S "rel")) λd=>aB (bF (S "mark") d) λe=>aB (bD h e (S "mark") d []) λf=>aB ((lN h b a)) λg=>if g then(ah1 h b f c a)else(c (upd (upd b (S "part") a) (S "spot") f))
def qX (c:CT)(a:LE):M Bool:=aQ (a (S "lax")) λb=>aK .Is b V.none
abbrev ah0 (g:CT)(a:LE):M V:=aQ (a (S "rel")) λb=>aB (aA b) λc=>aQ (a (S "lax")) λd=>aB (aA d) λe=>aB (g (.fn 130 0) [c,e]) λf=>aA (.bool true)
def qY (c:CT):LE→M V:=λa=>aB ((qX c a)) λb=>if b then(aA (.bool false))else(ah0 c a)
def y3 (b:CT)(rel_ s_ parts_:V):M V:=aB (bU parts_) λa=>b9 (still a (aP parts_)) (c6 b) a (upd (upd (upd (upd e0 (S "rel") rel_) (S "s") s_) (S "parts") parts_) (S "lax") V.none) (qY b)
theorem ah4 (n:Nat)(rel_ s_ parts_:V):aD (n+1) (.fn 129 0) [rel_,s_,parts_]=y3 (aD n) rel_ s_ parts_:=(aO (f:=(aT 129 0).get rfl) rfl).trans (by ext)
def ah7 (i:CT)(a:LE)(b:V):M Bool:=aB (aQ (a (S "rel")) λc=>aB (aR (S "assumed") c) λd=>aK .NotIn b d) λe=>bV .And e (aB (aQ (a (S "rel")) λf=>aB (aR (S "known") f) λg=>aK .NotIn b g) λh=>bV .And h (ret true) (ret h)) (ret e)
abbrev ah8 (l:CT)(a:LE)(b:V)(c:LE→M V):M V:=aQ (a (S "rel")) λd=>aB (aR (S "assumed") d) λe=>aB (b7 b (.int 1) e) λf=>aQ (a (S "rel")) λg=>aB (aR (S "trail") g) λh=>aB (bF (S "append") h) λi=>cI (cG i) b λj=>aB (bD l i (S "append") h [j]) λk=>c (upd a (S "key") b)
def ai0 (e:CT):V→LE→(LE→M V)→M V:=λa b c=>aB ((ah7 e b a)) λd=>if d then(ah8 e b a c)else(c (upd b (S "key") a))
def ah9 (b:CT):LE→M V:=λa=>ret .none
def y4 (i:CT)(rel_ lax_:V):M V:=aB (aR (S "notes") rel_) λa=>aB (aR (S "rows") a) λb=>aB (bF (S "extend") b) λc=>aB (aJ (.int 0) lax_) λd=>cI (cG c) d λe=>aB (bD i c (S "extend") b [e]) λf=>aB (aJ (.int 1) lax_) λg=>aB (bU g) λh=>b9 (still h (aP g)) (ai0 i) h (upd (upd e0 (S "rel") rel_) (S "lax") lax_) (ah9 i)
theorem ai1 (n:Nat)(rel_ lax_:V):aD (n+1) (.fn 130 0) [rel_,lax_]=y4 (aD n) rel_ lax_:=(aO (f:=(aT 130 0).get rfl) rfl).trans (by ext)
def m5 (h:CT)(s_ a rel_:V):M Bool:=aB (aK .In s_ a) λb=>bV .Or b (aB (aB (aA rel_) λc=>aB (aA s_) λd=>aB (aA a) λe=>aB (h (.fn 129 0) [c,d,e]) λf=>aS f) λg=>bV .Or g (ret false) (ret g)) (ret b)
def tI (d:CT)(a:V):M Bool:=aB (aK .Eq a (.int 7)) λb=>bV .And b (aB (fail) λc=>bV .And c (ret true) (ret c)) (ret b)
def tH (d:CT)(a:V):M Bool:=aB (aK .Eq a (.int 7)) λb=>bV .Or b (aB (aK .In a (.tup [(.int 8),(.int 9)])) λc=>bV .Or c (ret false) (ret c)) (ret b)
abbrev ar7 (f:CT)(a:V):M V:=aB ((tH f a)) λb=>if b then(fail)else(aB (aB (aK .Eq a (.int 12)) λc=>aB (aS (.bool c)) λd=>bV .And d (fail) (ret (.bool c))) λe=>aA e)
abbrev ar6 (g:CT)(a s_:V):M V:=aB (aR (S "rows") a) λb=>aB (aJ s_ b) λc=>aB (aJ (.int 0) c) λd=>aB (aK .In d (.tup [(.int 10),(.int 14),(.int 15),(.int 16),(.int 17),(.int 18),(.int 19)])) λe=>if e then(fail)else(aB ((tI g d)) λf=>if f then(aA (.bool true))else(ar7 g d))
def ag8 (g:CT)(rel_ s_ t_:V):M V:=aB (aR (S "host") rel_) λa=>aB (aR (S "tab") a) λb=>aB (aA b) λc=>aB (aA t_) λd=>aB (g (.fn 66 0) [c,d]) λe=>aB ((m5 g s_ e rel_)) λf=>if f then(aA (.bool true))else(ar6 g b s_)
theorem ar8 (n:Nat)(rel_ s_ t_:V):aD (n+1) (.fn 131 0) [rel_,s_,t_]=ag8 (aD n) rel_ s_ t_:=(aO (f:=(aT 131 0).get rfl) rfl).trans (by ext)
def jC (c:CT)(a:V):M Bool:=aB (aJ (.int 0) a) λb=>aK .Eq b (.int 5)
abbrev xV (h:CT)(tab_ t_ a:V):M V:=aB (aA tab_) λb=>aB (aA t_) λc=>aB (h (.fn 79 0) [b,c]) λd=>aB (aA d) λe=>aB (aJ (.int 3) a) λf=>aB (aA f) λg=>aA (.tup [e,g])
def jB (c:CT)(a:V):M Bool:=aB (aJ (.int 0) a) λb=>aK .In b (.tup [(.int 2),(.int 3),(.int 4)])
abbrev xU (h:CT)(tab_ t_ a:V):M V:=aB (aA tab_) λb=>aB (aA t_) λc=>aB (h (.fn 79 0) [b,c]) λd=>aB (aA d) λe=>aB (aJ (.int 1) a) λf=>aB (aA f) λg=>aA (.tup [e,g])
abbrev xT (d:CT)(a tab_ t_:V):M V:=aB ((jC d a)) λb=>if b then(xV d tab_ t_ a)else(aB ((jB d a)) λc=>if c then(xU d tab_ t_ a)else(aA (.tup [])))
def tK (e:CT)(tab_ t_:V):M V:=aB (aR (S "rows") tab_) λa=>aB (aJ t_ a) λb=>aB (aK .Eq t_ (.int 4)) λc=>if c then(aA (.tup [(.int 5),(.int 0)]))else(aB (aK .Eq t_ (.int 5)) λd=>if d then(aA (.tup [(.int 4),(.int 0)]))else(xT e b tab_ t_))
theorem xW (n:Nat)(tab_ t_:V):aD (n+1) (.fn 135 0) [tab_,t_]=tK (aD n) tab_ t_:=(aO (f:=(aT 135 0).get rfl) rfl).trans (by ext)
def nW (e:CT)(a b:V):M Bool:=aB (aK .Eq a (.int 0)) λc=>bV .Or c (aB (aK .Eq b (.int 0)) λd=>bV .Or d (ret false) (ret d)) (ret c)
abbrev x3 (g:CT)(a b:V):M V:=aB (aB (aK .Eq a (.int 6)) λc=>aB (aS (.bool c)) λd=>bV .And d (aB (aK .Eq b (.int 5)) λe=>ret (.bool e)) (ret (.bool c))) λf=>aA f
abbrev xZ (k:CT)(tab_ part_ s_:V):M V:=aB (aA tab_) λa=>aB (aA part_) λb=>aB (k (.fn 135 0) [a,b]) λc=>aB (aB (aK .Eq c (.tup [])) λd=>aB (aS (.bool d)) λe=>bV .Or e (aB (aB (aA tab_) λf=>aB (aA s_) λg=>aB (k (.fn 135 0) [f,g]) λh=>aK .Eq c h) λi=>ret (.bool i)) (ret (.bool d))) λj=>aA j
def tM (i:CT)(tab_ s_ part_:V):M V:=aB (aA tab_) λa=>aB (aA s_) λb=>aB (i (.fn 79 0) [a,b]) λc=>aB (aA tab_) λd=>aB (aA part_) λe=>aB (i (.fn 79 0) [d,e]) λf=>aB ((nW i c f)) λg=>if g then(aA (.bool true))else(aB (aK .NotEq c f) λh=>if h then(x3 i f c)else(xZ i tab_ part_ s_))
theorem x5 (n:Nat)(tab_ s_ part_:V):aD (n+1) (.fn 136 0) [tab_,s_,part_]=tM (aD n) tab_ s_ part_:=(aO (f:=(aT 136 0).get rfl) rfl).trans (by ext)
abbrev as4 (k:CT)(w_ a n_:V):M V:=aB (aB (aB (aJ (.str (S "nums")) w_) λb=>aB (jG "len" [b]) λc=>aK .Lt a c) λd=>if d then(aB (aJ (.str (S "nums")) w_) λe=>aB (aJ a e) λf=>ret f)else(aB (i8 .Mod a (.int 24)) λg=>aB (aJ g (.tup [(.int 0),(.int 0),(.int 1),(.int 1),(.int 4),(.int 6),(.int 2),(.int 20),(.int 9),(.int 16),(.int 4),(.int 17),(.int 30),(.int 2),(.int 1),(.int 8),(.int 5),(.int 34),(.int 12),(.int 40),(.int 3),(.int 19),(.int 27),(.int 3)])) λh=>ret h)) λi=>aB (i8 .Mod i n_) λj=>aA j
def ai3 (d:CT)(w_ n_:V):M V:=aB (aJ (.str (S "next")) w_) λa=>aB (i8 .Add a (.int 1)) λb=>aB (b7 (.str (S "next")) b w_) λc=>as4 d w_ a n_
theorem as5 (n:Nat)(w_ n_:V):aD (n+1) (.fn 138 0) [w_,n_]=ai3 (aD n) w_ n_:=(aO (f:=(aT 138 0).get rfl) rfl).trans (by ext)
abbrev as7 (f:CT)(a:V):M V:=aB (aJ (.int 12) a) λb=>aB (aA b) λc=>aB (aJ (.int 13) a) λd=>aB (aA d) λe=>aA (.lst [c,e])
abbrev as6 (l:CT)(i_ a:V):M V:=aB (aB (aK .Eq i_ (.int 20)) λb=>if b then(aB (aJ (.int 0) a) λc=>aB (aA c) λd=>aB (aJ (.int 8) a) λe=>aB (aA e) λf=>ret (.lst [d,f]))else(aB (aJ (.int 10) a) λg=>aB (aA g) λh=>aB (aJ (.int 11) a) λi=>aB (aA i) λj=>ret (.lst [h,j]))) λk=>aA k
abbrev at0 (g:CT)(a i_:V):M V:=aB (jH .Add a (.tup [(.tup [(.str (S "num")),(.int 7),(.str (S "")),(.str (S ""))]),(.tup [(.str (S "num")),(.int 1),(.str (S "G")),(.str (S "X"))]),(.tup [(.str (S "object")),(.int 0),(.str (S "")),(.str (S ""))])])) λb=>aB (aK .Lt i_ (.int 19)) λc=>if c then(aB (aJ i_ b) λd=>aB (aA d) λe=>aA (.lst [e]))else(aB (aK .Eq i_ (.int 19)) λf=>if f then(as7 g b)else(as6 g i_ b))
abbrev as9 (f:CT)(c i_:V):M V:=aB (jH .Add c (.tup [(.tup [(.str (S "num")),(.int 2),(.str (S "E")),(.str (S "B"))]),(.tup [(.str (S "num")),(.int 1),(.str (S "E")),(.str (S "C"))]),(.tup [(.str (S "text")),(.str (S "a")),(.str (S "T")),(.str (S "P"))]),(.tup [(.str (S "text")),(.str (S "b")),(.str (S "T")),(.str (S "Q"))])])) λd=>aB (jH .Add d (.tup [(.tup [(.str (S "truth")),(.int 0),(.str (S "")),(.str (S ""))]),(.tup [(.str (S "truth")),(.int 1),(.str (S "")),(.str (S ""))]),(.tup [(.str (S "num")),(.int 2),(.str (S "")),(.str (S ""))]),(.tup [(.str (S "text")),(.str (S "b")),(.str (S "")),(.str (S ""))])])) λe=>at0 f e i_
abbrev as8 (c:CT)(i_:V):M V:=aB (jH .Add (.tup [(.tup [(.str (S "num")),(.int 1),(.str (S "E")),(.str (S "A"))]),(.tup [(.str (S "undef")),(.int 0),(.str (S "")),(.str (S ""))]),(.tup [(.str (S "num")),(.int 1),(.str (S "")),(.str (S ""))]),(.tup [(.str (S "void")),(.int 0),(.str (S "")),(.str (S ""))])]) (.tup [(.tup [(.str (S "num")),V.none,(.str (S "")),(.str (S ""))]),(.tup [(.str (S "null")),(.int 0),(.str (S "")),(.str (S ""))]),(.tup [(.str (S "text")),(.str (S "a")),(.str (S "")),(.str (S ""))]),(.tup [(.str (S "text")),V.none,(.str (S "")),(.str (S ""))])])) λb=>as9 c b i_
def ai5 (a:CT)(i_:V):M V:=as8 a i_
theorem at4 (n:Nat)(i_:V):aD (n+1) (.fn 139 0) [i_]=ai5 (aD n) i_:=(aO (f:=(aT 139 0).get rfl) rfl).trans (by ext)
abbrev au6 (m:CT)(w_ a:V)(b c fresh_:V):M V:=aB (aJ (.str (S "tab")) w_) λd=>aB (aA d) λe=>aB (aJ (.str (S "dids")) w_) λf=>aB (aJ a f) λg=>aB (aA g) λh=>aB (aA b) λi=>aB (aA c) λj=>aB (aA fresh_) λk=>aB (m (.fn 64 0) [e,h,i,j,k]) λl=>aA l
abbrev au5 (g:CT)(w_ a fresh_:V):M V:=aB (aJ (.str (S "tab")) w_) λb=>aB (aA b) λc=>aB (aA a) λd=>aB (aA fresh_) λe=>aB (g (.fn 63 0) [c,d,e]) λf=>aA f
abbrev au4 (g:CT)(w_ a fresh_:V):M V:=aB (aJ (.str (S "tab")) w_) λb=>aB (aA b) λc=>aB (aA a) λd=>aB (aA fresh_) λe=>aB (g (.fn 62 0) [c,d,e]) λf=>aA f
abbrev au3 (g:CT)(w_ a fresh_:V):M V:=aB (aJ (.str (S "tab")) w_) λb=>aB (aA b) λc=>aB (aA a) λd=>aB (aA fresh_) λe=>aB (g (.fn 61 0) [c,d,e]) λf=>aA f
abbrev au2 (c:CT)(a:V):M V:=aB (aJ a (.dct [(.str (S "undef")),(.str (S "null")),(.str (S "void")),(.str (S "object"))] [(.int 4),(.int 5),(.int 3),(.int 10)])) λb=>aA b
abbrev au1 (e:CT)(a w_:V)(b fresh_:V):M V:=aB (aK .Eq a (.str (S "num"))) λc=>if c then(au4 e w_ b fresh_)else(aB (aK .Eq a (.str (S "text"))) λd=>if d then(au3 e w_ b fresh_)else(au2 e a))
abbrev au0 (f:CT)(a b:V)(w_ fresh_:V):M V:=aB (aK .Is a V.none) λc=>if c then(aB (aB (aK .Eq b (.str (S "num"))) λd=>if d then(ret (.int 7))else(ret (.int 6))) λe=>aA e)else(au1 f b w_ a fresh_)
def uR (l:CT)(w_ atom_ fresh_:V):M V:=xD atom_ λa=>eD a λb c=>eD c λd e=>eD e λf g=>eD g λh i=>yB i (aB (aK .NotEq f (.str (S ""))) λj=>if j then(au6 l w_ f h d fresh_)else(aB (aK .Eq b (.str (S "truth"))) λk=>if k then(au5 l w_ d fresh_)else(au0 l d b w_ fresh_)))
theorem dF (n:Nat)(w_ atom_ fresh_:V):aD (n+1) (.fn 140 0) [w_,atom_,fresh_]=uR (aD n) w_ atom_ fresh_:=(aO (f:=(aT 140 0).get rfl) rfl).trans (by ext)
def tS (e:CT):V→M (Option V):=λa=>aB (aB (aJ (.int 1) a) λb=>aK .Is b V.none) λc=>if c then(aB (aJ (.int 0) a) λd=>ret (some d))else ret Option.none
def nB (h:CT)(a:List V):V→M (Option V):=λb=>aB (aB (aB (aJ (.int 1) b) λc=>aK .Is c V.none) λd=>bV .Or d (aB (aB (aJ (.int 0) b) λe=>aK .NotIn e (.lst a)) λf=>bV .Or f (ret false) (ret f)) (ret d)) λg=>if g then(ret (some b))else ret Option.none
def ak0 (e:CT)(atoms_:V):M V:=aB (c8 atoms_) λa=>aB (bK (still a (aP atoms_)) (tS e) a) λb=>aB (c8 atoms_) λc=>aB (bK (still c (aP atoms_)) (nB e b) c) λd=>aA (.lst d)
theorem at9 (n:Nat)(atoms_:V):aD (n+1) (.fn 141 0) [atoms_]=ak0 (aD n) atoms_:=(aO (f:=(aT 141 0).get rfl) rfl).trans (by ext)
def ai2 (c:CT)(kind_ still_ top_ atoms_ ones_:V):M V:=aB (aA atoms_) λa=>aB (c (.fn 141 0) [a]) λb=>aA (.dct [(.str (S "kind")),(.str (S "still")),(.str (S "top")),(.str (S "atoms")),(.str (S "left")),(.str (S "ones"))] [kind_,still_,top_,atoms_,b,ones_])
theorem as3 (n:Nat)(kind_ still_ top_ atoms_ ones_:V):aD (n+1) (.fn 142 0) [kind_,still_,top_,atoms_,ones_]=ai2 (aD n) kind_ still_ top_ atoms_ ones_:=(aO (f:=(aT 142 0).get rfl) rfl).trans (by ext)
abbrev av9 (r:CT)(a:V):M V:=aB (i8 .Sub a (.int 8)) λb=>aB (aJ b (.tup [(.tup [(.int 0),(.str (S "any"))]),(.tup [(.int 1),(.str (S "unknown"))]),(.tup [(.int 2),(.str (S "never"))]),(.tup [(.int 13),(.str (S "error"))])])) λc=>xD c λd=>eD d λe f=>eD f λg h=>yB h (aB (aA e) λi=>aB (aA e) λj=>aB (aA g) λk=>aB (aA e) λl=>aB (aA e) λm=>aB (aA g) λn=>aB (r (.fn 142 0) [l,m,n,(.lst []),(.lst [])]) λo=>aB (aA o) λp=>aB (r (.fn 142 0) [i,j,k,(.lst []),(.lst [p])]) λq=>aA q)
def nF (g:CT)(a:LE)(b:V):M Bool:=aQ (a (S "rows")) λc=>aB (jG "len" [c]) λd=>aB (jG "len" [b]) λe=>aB (i8 .Add d e) λf=>aK .LtE f (.int 5)
def jQ (h:CT)(a:V):V→M (Option V):=λb=>aB (aA b) λc=>aB (aB (aK .Lt a (.int 38)) λd=>if d then(aB (i8 .Mod a (.int 2)) λe=>ret e)else(ret (.int 0))) λf=>aB (aA f) λg=>ret (some (.tup [c,g]))
abbrev tV (l:CT)(a:LE)(b c:V)(d:LE→M V)(e:V):M V:=aQ (a (S "rows")) λf=>aB (bF (S "extend") f) λg=>aB (c8 b) λh=>aB (bK (still h (aP b)) (jQ l c) h) λi=>cI (cG g) (.lst i) λj=>aB (bD l g (S "extend") f [j]) λk=>d (upd (upd (upd a (S "go") e) (S "x") c) (S "atoms") b)
def fI (k:CT):V→LE→(LE→M V)→M V:=λa b c=>aQ (b (S "w")) λd=>aB (aA d) λe=>aB (k (.fn 138 0) [e,(.int 44)]) λf=>aB (i8 .FloorDiv f (.int 2)) λg=>aB (aA g) λh=>aB (k (.fn 139 0) [h]) λi=>aB ((nF k b i)) λj=>if j then(tV k b i f c a)else(c (upd (upd (upd b (S "go") a) (S "x") f) (S "atoms") i))
def nE (d:CT)(a:LE):M Bool:=aQ (a (S "w")) λb=>aB (aJ (.str (S "turned")) b) λc=>aS c
abbrev tX (r:CT)(a:LE)(b c:V)(d:LE→M V)(e:V):M V:=aQ (a (S "ones")) λf=>aB (bF (S "append") f) λg=>aB (aA b) λh=>aQ (a (S "w")) λi=>aB (aA i) λj=>aB (aA c) λk=>aB (r (.fn 140 0) [j,k,(.int 0)]) λl=>aB (aA l) λm=>aB (aA c) λn=>aB (r (.fn 142 0) [h,m,(.str (S "")),(.lst [n]),(.lst [])]) λo=>cI (cG g) o λp=>aB (bD r g (S "append") f [p]) λq=>d (upd (upd (upd a (S "atom") c) (S "fresh") e) (S "kind") b)
def d7 (n:CT):V→LE→(LE→M V)→M V:=λa b c=>xD a λd=>eD d λe f=>eD f λg h=>yB h (aQ (b (S "w")) λi=>aB (aA i) λj=>aB (aA e) λk=>aB (aA g) λl=>aB (n (.fn 140 0) [j,k,l]) λm=>tX n b m e c g)
def nG (c:CT):V→M (Option V):=λa=>aB (aJ (.str (S "kind")) a) λb=>ret (some b)
def tZ (g:CT):V→M (Option V):=λa=>xD a λb=>eD b λc d=>eD d λe f=>yB f (ret (some c))
abbrev tW (p:CT)(a:V)(b:LE):M V:=aB (aA a) λc=>aQ (b (S "w")) λd=>aB (aJ (.str (S "tab")) d) λe=>aB (aA e) λf=>aB (aA a) λg=>aB (p (.fn 76 0) [f,g]) λh=>aB (aA h) λi=>aQ (b (S "rows")) λj=>aB (c8 j) λk=>aB (bK (still k (aP j)) (tZ p) k) λl=>aQ (b (S "ones")) λm=>aB (aA m) λn=>aB (p (.fn 142 0) [c,i,(.str (S "")),(.lst l),n]) λo=>aA o
def jP (i:CT):LE→M V:=λa=>aQ (a (S "w")) λb=>aB (aJ (.str (S "tab")) b) λc=>aB (aA c) λd=>aQ (a (S "ones")) λe=>aB (c8 e) λf=>aB (bK (still f (aP e)) (nG i) f) λg=>aB (i (.fn 72 0) [d,(.lst g)]) λh=>tW i h a
abbrev av8 (h:CT)(a:LE):M V:=aQ (a (S "rows")) λb=>aB (bF (S "reverse") b) λc=>aB (bD h c (S "reverse") b []) λd=>aB (bN (.list [])) λe=>aQ (a (S "rows")) λf=>aB (bU f) λg=>b9 (still g (aP f)) (d7 h) g (upd a (S "ones") e) (jP h)
abbrev aw1 (r:CT)(a:LE)(b c:V)(d:LE→M V)(e:V):M V:=aQ (a (S "ones")) λf=>aB (bF (S "append") f) λg=>aB (aA b) λh=>aQ (a (S "w")) λi=>aB (aA i) λj=>aB (aA c) λk=>aB (r (.fn 140 0) [j,k,(.int 0)]) λl=>aB (aA l) λm=>aB (aA c) λn=>aB (r (.fn 142 0) [h,m,(.str (S "")),(.lst [n]),(.lst [])]) λo=>cI (cG g) o λp=>aB (bD r g (S "append") f [p]) λq=>d (upd (upd (upd a (S "atom") c) (S "fresh") e) (S "kind") b)
def tY (n:CT):V→LE→(LE→M V)→M V:=λa b c=>xD a λd=>eD d λe f=>eD f λg h=>yB h (aQ (b (S "w")) λi=>aB (aA i) λj=>aB (aA e) λk=>aB (aA g) λl=>aB (n (.fn 140 0) [j,k,l]) λm=>aw1 n b m e c g)
def ak3 (c:CT):V→M (Option V):=λa=>aB (aJ (.str (S "kind")) a) λb=>ret (some b)
def ak2 (g:CT):V→M (Option V):=λa=>xD a λb=>eD b λc d=>eD d λe f=>yB f (ret (some c))
abbrev aw0 (p:CT)(a:V)(b:LE):M V:=aB (aA a) λc=>aQ (b (S "w")) λd=>aB (aJ (.str (S "tab")) d) λe=>aB (aA e) λf=>aB (aA a) λg=>aB (p (.fn 76 0) [f,g]) λh=>aB (aA h) λi=>aQ (b (S "rows")) λj=>aB (c8 j) λk=>aB (bK (still k (aP j)) (ak2 p) k) λl=>aQ (b (S "ones")) λm=>aB (aA m) λn=>aB (p (.fn 142 0) [c,i,(.str (S "")),(.lst l),n]) λo=>aA o
def rD (i:CT):LE→M V:=λa=>aQ (a (S "w")) λb=>aB (aJ (.str (S "tab")) b) λc=>aB (aA c) λd=>aQ (a (S "ones")) λe=>aB (c8 e) λf=>aB (bK (still f (aP e)) (ak3 i) f) λg=>aB (i (.fn 72 0) [d,(.lst g)]) λh=>aw0 i h a
abbrev tU (e:CT)(a:LE):M V:=aB (bN (.list [])) λb=>aQ (a (S "rows")) λc=>aB (bU c) λd=>b9 (still d (aP c)) (tY e) d (upd a (S "ones") b) (rD e)
def iN (c:CT):LE→M V:=λa=>aB ((nE c a)) λb=>if b then(av8 c a)else(tU c a)
abbrev av7 (f:CT)(a w_:V):M V:=aB (bN (.list [])) λb=>aB (aJ a (.tup [(.int 1),(.int 2),(.int 2),(.int 3),(.int 4),(.int 5),(.int 3),(.int 2)])) λc=>aB (tyV "range" [c]) λd=>aB (bU d) λe=>b9 (still e (aP d)) (fI f) e (upd (upd (upd e0 (S "w") w_) (S "head") a) (S "rows") b) (iN f)
def uS (d:CT)(w_:V):M V:=aB (aA w_) λa=>aB (d (.fn 138 0) [a,(.int 12)]) λb=>aB (aK .Gt b (.int 7)) λc=>if c then(av9 d b)else(av7 d b w_)
theorem uB (n:Nat)(w_:V):aD (n+1) (.fn 143 0) [w_]=uS (aD n) w_:=(aO (f:=(aT 143 0).get rfl) rfl).trans (by ext)
def y5 (e:CT)(v_:V):M V:=aB (aJ (.int 0) v_) λa=>aB (aA a) λb=>aB (aJ (.int 1) v_) λc=>aB (aA c) λd=>aA (.tup [b,d,(.str (S ""))])
theorem ai4 (n:Nat)(v_:V):aD (n+1) (.fn 144 0) [v_]=y5 (aD n) v_:=(aO (f:=(aT 144 0).get rfl) rfl).trans (by ext)
def gZ (e:CT)(a:V):V→M (Option V):=λb=>aB (aB (aJ (.int 0) b) λc=>aK .Eq c a) λd=>if d then(ret (some b))else ret Option.none
abbrev aa8 (k:CT)(a:LE)(b:LE→M V)(c d:V)(e f:V):M V:=aQ (a (S "out")) λg=>aB (bF (S "append") g) λh=>cI (cG h) (.tup [(.str (S "undef")),(.int 0),(.str (S ""))]) λi=>aB (bD k h (S "append") g [i]) λj=>b (upd (upd (upd (upd a (S "word") c) (S "value") d) (S "brand") e) (S "name") f)
abbrev aa7 (o:CT)(a:LE)(b:V)(c:LE→M V)(d e f:V):M V:=aQ (a (S "out")) λg=>aB (bF (S "extend") g) λh=>aQ (a (S "store")) λi=>aB (c8 i) λj=>aB (bK (still j (aP i)) (gZ o b) j) λk=>cI (cG h) (.lst k) λl=>aB (bD o h (S "extend") g [l]) λm=>aB (aK .Eq b (.str (S "void"))) λn=>if n then(aa8 o a c b d e f)else(c (upd (upd (upd (upd a (S "word") b) (S "value") d) (S "brand") e) (S "name") f))
abbrev aa6 (k:CT)(a:LE)(b:LE→M V)(c d:V)(e f:V):M V:=aQ (a (S "out")) λg=>aB (bF (S "append") g) λh=>cI (cG h) (.tup [(.str (S "undef")),(.int 0),(.str (S ""))]) λi=>aB (bD k h (S "append") g [i]) λj=>b (upd (upd (upd (upd a (S "word") c) (S "value") d) (S "brand") e) (S "name") f)
abbrev aa5 (o:CT)(a:LE)(b c d:V)(e:LE→M V)(f:V):M V:=aQ (a (S "out")) λg=>aB (bF (S "append") g) λh=>aB (aA b) λi=>aB (aA c) λj=>aB (aA d) λk=>cI (cG h) (.tup [i,j,k]) λl=>aB (bD o h (S "append") g [l]) λm=>aB (aK .Eq b (.str (S "void"))) λn=>if n then(aa6 o a e b c d f)else(e (upd (upd (upd (upd a (S "word") b) (S "value") c) (S "brand") d) (S "name") f))
def cE (n:CT):V→LE→(LE→M V)→M V:=λa b c=>xD a λd=>eD d λe f=>eD f λg h=>eD h λi j=>eD j λk l=>yB l (aB (aK .Is g V.none) λm=>if m then(aa7 n b e c g i k)else(aa5 n b e g i c k))
def j4 (c:CT):LE→M V:=λa=>aQ (a (S "out")) λb=>aA b
abbrev ab0 (e:CT)(atoms_ a:V)(b c:V):M V:=aB (bU atoms_) λd=>b9 (still d (aP atoms_)) (cE e) d (upd (upd (upd (upd (upd e0 (S "atoms") atoms_) (S "store") (.tup [(.tup [(.str (S "num")),(.int 0),(.str (S ""))]),(.tup [(.str (S "num")),(.int 1),(.str (S ""))]),(.tup [(.str (S "num")),(.int 2),(.str (S ""))]),(.tup [(.str (S "num")),(.int 7),(.str (S ""))]),(.tup [(.str (S "num")),(.int 1),(.str (S "E"))]),(.tup [(.str (S "num")),(.int 2),(.str (S "E"))])])) (S "store") a) (S "store") b) (S "out") c) (j4 e)
abbrev aa9 (f:CT)(atoms_:V):M V:=aB (jH .Add (.tup [(.tup [(.str (S "num")),(.int 0),(.str (S ""))]),(.tup [(.str (S "num")),(.int 1),(.str (S ""))]),(.tup [(.str (S "num")),(.int 2),(.str (S ""))]),(.tup [(.str (S "num")),(.int 7),(.str (S ""))]),(.tup [(.str (S "num")),(.int 1),(.str (S "E"))]),(.tup [(.str (S "num")),(.int 2),(.str (S "E"))])]) (.tup [(.tup [(.str (S "num")),(.int 1),(.str (S "G"))]),(.tup [(.str (S "text")),(.str (S "")),(.str (S ""))]),(.tup [(.str (S "text")),(.str (S "a")),(.str (S ""))]),(.tup [(.str (S "text")),(.str (S "b")),(.str (S ""))])])) λc=>aB (jH .Add c (.tup [(.tup [(.str (S "text")),(.str (S "a")),(.str (S "T"))]),(.tup [(.str (S "text")),(.str (S "b")),(.str (S "T"))])])) λd=>aB (bN (.list [])) λe=>ab0 f atoms_ c d e
def o9 (a:CT)(atoms_:V):M V:=aa9 a atoms_
theorem ab1 (n:Nat)(atoms_:V):aD (n+1) (.fn 145 0) [atoms_]=o9 (aD n) atoms_:=(aO (f:=(aT 145 0).get rfl) rfl).trans (by ext)
def j3 (k:CT)(a near_:V):V→M (Option V):=λb=>aB (aB (aK .In b a) λc=>aB (aS (.bool c)) λd=>bV .Or d (aB (aB (aS near_) λe=>bV .And e (aB (aB (aA b) λf=>aB (k (.fn 144 0) [f]) λg=>aK .In g a) λh=>ret (.bool h)) (ret near_)) λi=>ret i) (ret (.bool c))) λj=>ret (some j)
def wA (h:CT)(atoms_ others_ near_:V):M V:=aB (aA others_) λa=>aB (h (.fn 145 0) [a]) λb=>aB (aA atoms_) λc=>aB (h (.fn 145 0) [c]) λd=>aB (c8 d) λe=>aB (bK (still e (aP d)) (j3 h b near_) e) λf=>aB (jG "all" [(.lst f)]) λg=>aA g
theorem aa4 (n:Nat)(atoms_ others_ near_:V):aD (n+1) (.fn 146 0) [atoms_,others_,near_]=wA (aD n) atoms_ others_ near_:=(aO (f:=(aT 146 0).get rfl) rfl).trans (by ext)
def j5 (i:CT)(a:V)(b:LE):M Bool:=aB (aB (aA a) λc=>aQ (b (S "t")) λd=>aB (aJ (.str (S "atoms")) d) λe=>aB (aA e) λf=>aB (i (.fn 146 0) [(.lst [c]),f,(.bool true)]) λg=>aS g) λh=>ret !h
def pX (f:CT)(a:V):M Bool:=aB (aB (aJ (.int 0) a) λb=>aK .NotEq b (.str (S "num"))) λc=>bV .Or c (aB (aB (aJ (.int 2) a) λd=>aK .NotEq d (.str (S ""))) λe=>bV .Or e (ret false) (ret e)) (ret c)
def pZ (h:CT):V→M (Option V):=λa=>aB (aB (aB (aJ (.int 0) a) λb=>aK .Eq b (.str (S "num"))) λc=>bV .And c (aB (aB (aJ (.int 2) a) λd=>aK .NotEq d (.str (S ""))) λe=>bV .And e (ret true) (ret e)) (ret c)) λf=>if f then(aB (aJ (.int 1) a) λg=>ret (some g))else ret Option.none
def pW (j:CT)(a:V)(b:List V):M Bool:=aB (aB (aB (aJ (.int 1) a) λc=>aK .In c (.lst b)) λd=>bV .Or d (aB (aB (aB (aJ (.int 1) a) λe=>aK .Is e V.none) λf=>bV .And f (aB (aS (.lst b)) λg=>bV .And g (ret true) (ret g)) (ret f)) λh=>bV .Or h (ret false) (ret h)) (ret d)) λi=>ret !i
abbrev ab2 (i:CT)(a:LE)(b:V)(c:LE→M V):M V:=aQ (a (S "t")) λd=>aB (aJ (.str (S "atoms")) d) λe=>aB (c8 e) λf=>aB (bK (still f (aP e)) (pZ i) f) λg=>aB ((pW i b g)) λh=>if h then(aA (.tup [(.bool false),(.lst [])]))else(c (upd (upd (upd a (S "atom") b) (S "members") (.lst g)) (S "noted") (.bool true)))
def cT (f:CT):V→LE→(LE→M V)→M V:=λa b c=>aB ((j5 f a b)) λd=>if d then(aB ((pX f a)) λe=>if e then(aA (.tup [(.bool false),(.lst [])]))else(ab2 f b a c))else(c (upd b (S "atom") a))
def pY (f:CT):LE→M V:=λa=>aB (aB (aQ (a (S "noted")) λb=>aS b) λc=>if c then(ret (.lst [(.int 10)]))else(ret (.lst []))) λd=>aB (aA d) λe=>aA (.tup [(.bool true),e])
def wF (c:CT)(s_ t_:V):M V:=aB (aJ (.str (S "left")) s_) λa=>aB (bU a) λb=>b9 (still b (aP a)) (cT c) b (upd (upd (upd e0 (S "s") s_) (S "t") t_) (S "noted") (.bool false)) (pY c)
theorem ab3 (n:Nat)(s_ t_:V):aD (n+1) (.fn 147 0) [s_,t_]=wF (aD n) s_ t_:=(aO (f:=(aT 147 0).get rfl) rfl).trans (by ext)
def av1 (d:CT)(how_ s_:V):M Bool:=aB (aK .Eq how_ (.str (S "subtype"))) λa=>bV .And a (aB (aB (aJ (.str (S "top")) s_) λb=>aK .Eq b (.str (S "any"))) λc=>bV .And c (ret true) (ret c)) (ret a)
def av0 (d:CT)(how_ s_:V):M Bool:=aB (aK .Eq how_ (.str (S "units"))) λa=>bV .And a (aB (aB (aJ (.str (S "top")) s_) λb=>aK .In b (.tup [(.str (S "any")),(.str (S "error"))])) λc=>bV .And c (ret true) (ret c)) (ret a)
def au9 (e:CT)(a:Bool)(s_:V):M Bool:=aB (aS (.bool a)) λb=>bV .Or b (aB (aB (aJ (.str (S "top")) s_) λc=>aK .In c (.tup [(.str (S "never")),(.str (S "error"))])) λd=>bV .Or d (ret false) (ret d)) (ret b)
def au8 (e:CT)(s_ t_:V):M Bool:=aB (aB (aJ (.str (S "top")) s_) λa=>aK .Eq a (.str (S "any"))) λb=>bV .And b (aB (aB (aJ (.str (S "top")) t_) λc=>aK .NotEq c (.str (S "never"))) λd=>bV .And d (ret true) (ret d)) (ret b)
def au7 (e:CT)(s_ t_:V):M Bool:=aB (aB (aJ (.str (S "top")) s_) λa=>aK .NotEq a (.str (S ""))) λb=>bV .Or b (aB (aB (aJ (.str (S "top")) t_) λc=>aK .NotEq c (.str (S ""))) λd=>bV .Or d (ret false) (ret d)) (ret b)
abbrev av5 (h:CT)(s_ t_ how_:V):M V:=aB (aJ (.str (S "atoms")) s_) λa=>aB (aA a) λb=>aB (aJ (.str (S "atoms")) t_) λc=>aB (aA c) λd=>aB (aK .NotEq how_ (.str (S "plain"))) λe=>aB (h (.fn 146 0) [b,d,(.bool e)]) λf=>aB (aA f) λg=>aA (.tup [g,(.lst [])])
abbrev av4 (e:CT)(how_ s_ t_:V):M V:=aB (aK .Eq how_ (.str (S "assign"))) λa=>if a then(aB (aA s_) λb=>aB (aA t_) λc=>aB (e (.fn 147 0) [b,c]) λd=>aA d)else(av5 e s_ t_ how_)
abbrev av3 (c:CT)(s_ t_ how_:V):M V:=aB ((au8 c s_ t_)) λa=>if a then(aA (.tup [(.bool true),(.lst [(.int 1)])]))else(aB ((au7 c s_ t_)) λb=>if b then(aA (.tup [(.bool false),(.lst [])]))else(av4 c how_ s_ t_))
abbrev av2 (d:CT)(how_ s_:V)(a:Bool)(t_:V):M V:=aB ((av0 d how_ s_)) λb=>if b then(aA (.tup [(.bool a),(.lst [])]))else(aB ((au9 d a s_)) λc=>if c then(aA (.tup [(.bool true),(.lst [])]))else(av3 d s_ t_ how_))
def pE (f:CT)(how_ s_ t_:V):M V:=aB (aB (aJ (.str (S "top")) t_) λa=>aK .In a (.tup [(.str (S "any")),(.str (S "unknown")),(.str (S "error"))])) λb=>aB ((av1 f how_ s_)) λc=>if c then(aB (aB (aJ (.str (S "top")) t_) λd=>aK .In d (.tup [(.str (S "any")),(.str (S "error"))])) λe=>aA (.tup [(.bool e),(.lst [])]))else(av2 f how_ s_ b t_)
theorem av6 (n:Nat)(how_ s_ t_:V):aD (n+1) (.fn 148 0) [how_,s_,t_]=pE (aD n) how_ s_ t_:=(aO (f:=(aT 148 0).get rfl) rfl).trans (by ext)
def aj5 (g:CT)(how_ s_ t_:V):M Bool:=aB (aK .Eq how_ (.str (S "plain"))) λa=>bV .And a (aB (aB (aJ (.str (S "top")) s_) λb=>aB (aA b) λc=>aB (aJ (.str (S "top")) t_) λd=>aB (aA d) λe=>aK .In (.str (S "never")) (.tup [c,e])) λf=>bV .And f (ret true) (ret f)) (ret a)
def aj4 (b:CT)(s_:V):M Bool:=aB (aJ (.str (S "top")) s_) λa=>aK .In a (.tup [(.str (S "never")),(.str (S "error"))])
def aj3 (b:CT)(t_:V):M Bool:=aB (aJ (.str (S "top")) t_) λa=>aK .Eq a (.str (S "never"))
def aj2 (e:CT)(s_ t_:V):M Bool:=aB (aB (aJ (.str (S "top")) s_) λa=>aK .NotEq a (.str (S ""))) λb=>bV .Or b (aB (aB (aJ (.str (S "top")) t_) λc=>aK .NotEq c (.str (S ""))) λd=>bV .Or d (ret false) (ret d)) (ret b)
def iM (d:CT)(a:V):V→M (Option V):=λb=>aB (aK .In b a) λc=>ret (some (.bool c))
def lQ (d:CT):V→M (Option V):=λa=>aB (aA a) λb=>aB (d (.fn 144 0) [b]) λc=>ret (some c)
def lP (m:CT)(a:LE)(b:V):M Bool:=aB (aQ (a (S "right")) λc=>aK .In b c) λd=>bV .Or d (aB (aB (aA b) λe=>aB (m (.fn 144 0) [e]) λf=>aQ (a (S "right")) λg=>aK .In f g) λh=>bV .Or h (aB (aQ (a (S "right")) λi=>aB (c8 i) λj=>aB (bK (still j (aP i)) (lQ m) j) λk=>aK .In b (.lst k)) λl=>bV .Or l (ret false) (ret l)) (ret h)) (ret d)
def dK (e:CT):V→LE→(LE→M V)→M V:=λa b c=>aB ((lP e b a)) λd=>if d then(aA (.bool true))else(c (upd b (S "v") a))
def q8 (b:CT):LE→M V:=λa=>aA (.bool false)
abbrev aj7 (d:CT)(a how_:V)(s_ t_ b:V):M V:=aB (bU a) λc=>b9 (still c (aP a)) (dK d) c (upd (upd (upd (upd (upd e0 (S "how") how_) (S "s") s_) (S "t") t_) (S "left") a) (S "right") b) (q8 d)
abbrev aj8 (k:CT)(s_ t_ how_:V):M V:=aB (aJ (.str (S "atoms")) s_) λa=>aB (aA a) λb=>aB (k (.fn 145 0) [b]) λc=>aB (aJ (.str (S "atoms")) t_) λd=>aB (aA d) λe=>aB (k (.fn 145 0) [e]) λf=>aB (aK .Eq how_ (.str (S "plain"))) λg=>if g then(aB (c8 c) λh=>aB (bK (still h (aP c)) (iM k f) h) λi=>aB (jG "any" [(.lst i)]) λj=>aA j)else(aj7 k c how_ s_ t_ f)
abbrev aj6 (c:CT)(t_ s_ how_:V):M V:=aB ((aj3 c t_)) λa=>if a then(aA (.bool false))else(aB ((aj2 c s_ t_)) λb=>if b then(aA (.bool true))else(aj8 c s_ t_ how_))
def q9 (c:CT)(how_ s_ t_:V):M V:=aB ((aj5 c how_ s_ t_)) λa=>if a then(aA (.bool true))else(aB ((aj4 c s_)) λb=>if b then(aA (.bool true))else(aj6 c t_ s_ how_))
theorem aj9 (n:Nat)(how_ s_ t_:V):aD (n+1) (.fn 149 0) [how_,s_,t_]=q9 (aD n) how_ s_ t_:=(aO (f:=(aT 149 0).get rfl) rfl).trans (by ext)
def rA (e:CT)(s_ t_:V):M Bool:=aB (aB (aJ (.str (S "top")) s_) λa=>aK .NotEq a (.str (S ""))) λb=>bV .Or b (aB (aB (aJ (.str (S "top")) t_) λc=>aK .NotEq c (.str (S ""))) λd=>bV .Or d (ret false) (ret d)) (ret b)
def lS (d:CT):V→M (Option V):=λa=>aB (aA a) λb=>aB (d (.fn 144 0) [b]) λc=>ret (some c)
def lR (f:CT)(a:List V):V→M (Option V):=λb=>aB (aB (aA b) λc=>aB (f (.fn 144 0) [c]) λd=>aK .In d (.lst a)) λe=>ret (some (.bool e))
abbrev rB (l:CT)(t_ s_:V):M V:=aB (aJ (.str (S "atoms")) t_) λa=>aB (aA a) λb=>aB (l (.fn 145 0) [b]) λc=>aB (c8 c) λd=>aB (bK (still d (aP c)) (lS l) d) λe=>aB (aJ (.str (S "atoms")) s_) λf=>aB (aA f) λg=>aB (l (.fn 145 0) [g]) λh=>aB (c8 h) λi=>aB (bK (still i (aP h)) (lR l e) i) λj=>aB (jG "all" [(.lst j)]) λk=>aA k
def rC (b:CT)(s_ t_:V):M V:=aB ((rA b s_ t_)) λa=>if a then(aA (.bool true))else(rB b t_ s_)
theorem ak1 (n:Nat)(s_ t_:V):aD (n+1) (.fn 150 0) [s_,t_]=rC (aD n) s_ t_:=(aO (f:=(aT 150 0).get rfl) rfl).trans (by ext)
def eP (g:CT):V→LE→(LE→M V)→M V:=λa b c=>aQ (b (S "codes")) λd=>aB (aJ (.int 0) a) λe=>aB (b7 e (.int 1) d) λf=>c (upd b (S "row") a)
def rF (g:CT):LE→M V:=λa=>aQ (a (S "said")) λb=>aB (aA b) λc=>aQ (a (S "codes")) λd=>aB (jG "sorted" [d]) λe=>aB (aA e) λf=>aA (.tup [c,f])
abbrev rE (l:CT)(rel_ one_:V)(other_ a:V):M V:=aB (bF (S "ask") rel_) λb=>cI (cG b) one_ λc=>cI (cG b) other_ λd=>aB (bD l b (S "ask") rel_ [c,d]) λe=>aB (bN (.dict [])) λf=>aB (aR (S "notes") rel_) λg=>aB (aR (S "rows") g) λh=>aQ (cA a) λi=>aB (fY i h) λj=>aB (bU j) λk=>b9 (still k (aP j)) (eP l) k (upd (upd (upd (upd (upd (upd e0 (S "rel") rel_) (S "one") one_) (S "other") other_) (S "start") a) (S "said") e) (S "codes") f) (rF l)
def y7 (d:CT)(rel_ one_ other_:V):M V:=aB (aR (S "notes") rel_) λa=>aB (aR (S "rows") a) λb=>aB (jG "len" [b]) λc=>rE d rel_ one_ other_ c
theorem ak4 (n:Nat)(rel_ one_ other_:V):aD (n+1) (.fn 151 0) [rel_,one_,other_]=y7 (aD n) rel_ one_ other_:=(aO (f:=(aT 151 0).get rfl) rfl).trans (by ext)
def nA (o:CT)(w_ a:V)(b s_:V)(t_ c:V):M Bool:=aB (aB (aJ (.str (S "tab")) w_) λd=>aB (aA d) λe=>aB (aA a) λf=>aB (aA b) λg=>aB (o (.fn 82 0) [e,f,g]) λh=>aB (aA s_) λi=>aB (aA t_) λj=>aB (o (.fn 148 0) [(.str (S "plain")),i,j]) λk=>aK .NotEq h k) λl=>bV .And l (aB (aB (aS c) λm=>ret !m) λn=>bV .And n (ret true) (ret n)) (ret l)
def m9 (l:CT)(w_ a:V)(b s_ t_:V):M Bool:=aB (aJ (.str (S "tab")) w_) λc=>aB (aA c) λd=>aB (aA a) λe=>aB (aA b) λf=>aB (l (.fn 86 0) [d,e,f]) λg=>aB (aA s_) λh=>aB (aA t_) λi=>aB (l (.fn 148 0) [(.str (S "units")),h,i]) λj=>aB (aJ (.int 0) j) λk=>aK .NotEq g k
def jL (u:CT)(a:LE)(b c:V):M Bool:=aQ (a (S "w")) λd=>aB (aJ (.str (S "rels")) d) λe=>aB (aJ b e) λf=>aB (aA f) λg=>aQ (a (S "one")) λh=>aB (aA h) λi=>aQ (a (S "other")) λj=>aB (aA j) λk=>aB (u (.fn 151 0) [g,i,k]) λl=>aB (aA c) λm=>aQ (a (S "s")) λn=>aB (aA n) λo=>aQ (a (S "t")) λp=>aB (aA p) λq=>aB (u (.fn 148 0) [m,o,q]) λr=>aK .NotEq l r
def jO (j:CT):V→LE→(LE→M V)→M V:=λa b c=>xD a λd=>eD d λe f=>eD f λg h=>yB h (aB ((jL j b g e)) λi=>if i then(aA (.bool false))else(c (upd (upd b (S "how") e) (S "mode") g)))
def m7 (i:CT)(a:LE):M Bool:=aQ (a (S "s")) λb=>aB (aJ (.str (S "ones")) b) λc=>aB (jG "len" [c]) λd=>aQ (a (S "t")) λe=>aB (aJ (.str (S "ones")) e) λf=>aB (jG "len" [f]) λg=>aB (i8 .Mult d g) λh=>aK .Lt h (.int 7)
def jK (n:CT)(a:V)(b:LE):M Bool:=aB (aA a) λc=>aQ (b (S "one")) λd=>aB (aA d) λe=>aQ (b (S "other")) λf=>aB (aA f) λg=>aB (n (.fn 151 0) [c,e,g]) λh=>aQ (b (S "s")) λi=>aB (aA i) λj=>aQ (b (S "t")) λk=>aB (aA k) λl=>aB (n (.fn 148 0) [(.str (S "assign")),j,l]) λm=>aK .NotEq h m
def jN (e:CT):V→LE→(LE→M V)→M V:=λa b c=>aB ((jK e a b)) λd=>if d then(aA (.bool false))else(c (upd b (S "rel") a))
def m6 (o:CT)(a:LE):M Bool:=aQ (a (S "w")) λb=>aB (aJ (.str (S "tab")) b) λc=>aB (aA c) λd=>aQ (a (S "one")) λe=>aB (aA e) λf=>aQ (a (S "other")) λg=>aB (aA g) λh=>aB (o (.fn 83 0) [d,f,h]) λi=>aQ (a (S "s")) λj=>aB (aA j) λk=>aQ (a (S "t")) λl=>aB (aA l) λm=>aB (o (.fn 149 0) [(.str (S "plain")),k,m]) λn=>aK .NotEq i n
abbrev tR (q:CT)(a:LE):M V:=aB (aQ (a (S "w")) λb=>aB (aJ (.str (S "rels")) b) λc=>aB (aJ (.int 2) c) λd=>aB (bF (S "ask") d) λe=>aQ (a (S "one")) λf=>cI (cG e) f λg=>aQ (a (S "other")) λh=>cI (cG e) h λi=>aB (bD q e (S "ask") d [g,i]) λj=>aQ (a (S "s")) λk=>aB (aA k) λl=>aQ (a (S "t")) λm=>aB (aA m) λn=>aB (q (.fn 149 0) [(.str (S "compare")),l,n]) λo=>aK .Eq j o) λp=>aA (.bool p)
def jM (c:CT):LE→M V:=λa=>aB ((m6 c a)) λb=>if b then(aA (.bool false))else(tR c a)
abbrev tO (l:CT)(a:LE):M V:=aQ (a (S "w")) λb=>aB (aJ (.str (S "rels")) b) λc=>aB (aJ (.int 1) c) λd=>aB (aA d) λe=>aQ (a (S "w")) λf=>aB (aJ (.str (S "host")) f) λg=>aB (aA g) λh=>aB (jY l 110 [h,(.int 1)]) λi=>aB (aA i) λj=>aB (bU (.tup [e,j])) λk=>b9 (still k (aP (.tup [e,j]))) (jN l) k a (jM l)
def aj0 (o:CT)(a:LE):M Bool:=aQ (a (S "w")) λb=>aB (aJ (.str (S "tab")) b) λc=>aB (aA c) λd=>aQ (a (S "one")) λe=>aB (aA e) λf=>aQ (a (S "other")) λg=>aB (aA g) λh=>aB (o (.fn 83 0) [d,f,h]) λi=>aQ (a (S "s")) λj=>aB (aA j) λk=>aQ (a (S "t")) λl=>aB (aA l) λm=>aB (o (.fn 149 0) [(.str (S "plain")),k,m]) λn=>aK .NotEq i n
abbrev at7 (q:CT)(a:LE):M V:=aB (aQ (a (S "w")) λb=>aB (aJ (.str (S "rels")) b) λc=>aB (aJ (.int 2) c) λd=>aB (bF (S "ask") d) λe=>aQ (a (S "one")) λf=>cI (cG e) f λg=>aQ (a (S "other")) λh=>cI (cG e) h λi=>aB (bD q e (S "ask") d [g,i]) λj=>aQ (a (S "s")) λk=>aB (aA k) λl=>aQ (a (S "t")) λm=>aB (aA m) λn=>aB (q (.fn 149 0) [(.str (S "compare")),l,n]) λo=>aK .Eq j o) λp=>aA (.bool p)
def iL (d:CT):LE→M V:=λa=>aB ((m7 d a)) λb=>if b then(tO d a)else(aB ((aj0 d a)) λc=>if c then(aA (.bool false))else(at7 d a))
abbrev at5 (e:CT)(w_ s_:V)(t_ a:V)(b c:V):M V:=aB (bU (.tup [(.tup [(.str (S "assign")),(.int 1)]),(.tup [(.str (S "subtype")),(.int 4)])])) λd=>b9 (still d (aP (.tup [(.tup [(.str (S "assign")),(.int 1)]),(.tup [(.str (S "subtype")),(.int 4)])]))) (jO e) d (upd (upd (upd (upd (upd (upd e0 (S "w") w_) (S "s") s_) (S "t") t_) (S "one") a) (S "other") b) (S "blind") c) (iL e)
abbrev at6 (k:CT)(s_ t_:V)(w_ a b:V):M V:=aB (aB (aB (aJ (.str (S "top")) s_) λc=>aK .Eq c (.str (S "error"))) λd=>aB (aS (.bool d)) λe=>bV .And e (aB (aB (aJ (.str (S "top")) t_) λf=>aK .Eq f (.str (S "never"))) λg=>ret (.bool g)) (ret (.bool d))) λh=>aB ((nA k w_ a b s_ t_ h)) λi=>if i then(aA (.bool false))else(aB ((m9 k w_ a b s_ t_)) λj=>if j then(aA (.bool false))else(at5 k w_ s_ t_ a b h))
def aj1 (c:CT)(w_ s_ t_:V):M V:=aB (aJ (.str (S "kind")) s_) λa=>aB (aJ (.str (S "kind")) t_) λb=>at6 c s_ t_ w_ a b
theorem at8 (n:Nat)(w_ s_ t_:V):aD (n+1) (.fn 152 0) [w_,s_,t_]=aj1 (aD n) w_ s_ t_:=(aO (f:=(aT 152 0).get rfl) rfl).trans (by ext)
def lO (r:CT)(b:LE)(c:V):M Bool:=aQ (b (S "w")) λd=>aB (aJ (.str (S "tab")) d) λe=>aB (aA e) λf=>aQ (b (S "a")) λg=>aB (aJ (.str (S "still")) g) λh=>aB (aA h) λi=>aB (aJ (.str (S "still")) c) λj=>aB (aA j) λk=>aB (r (.fn 81 0) [f,i,k]) λl=>aQ (b (S "a")) λm=>aB (aA m) λn=>aB (aA c) λo=>aB (r (.fn 148 0) [(.str (S "plain")),n,o]) λp=>aB (aJ (.int 0) p) λq=>aK .NotEq l q
def iJ (t:CT)(b:Bool)(c:LE)(d:V):M Bool:=aB (aS (.bool b)) λe=>bV .And e (aB (aQ (c (S "w")) λf=>aB (aJ (.str (S "tab")) f) λg=>aB (aA g) λh=>aQ (c (S "a")) λi=>aB (aJ (.str (S "kind")) i) λj=>aB (aA j) λk=>aB (aJ (.str (S "kind")) d) λl=>aB (aA l) λm=>aB (t (.fn 136 0) [h,k,m]) λn=>aQ (c (S "a")) λo=>aB (aA o) λp=>aB (aA d) λq=>aB (t (.fn 150 0) [p,q]) λr=>aK .NotEq n r) λs=>bV .And s (ret true) (ret s)) (ret e)
abbrev ai6 (m:CT)(c:LE)(d:V)(e:LE→M V):M V:=aB (aQ (c (S "a")) λf=>aB (aJ (.str (S "top")) f) λg=>aB (aA g) λh=>aB (aJ (.str (S "top")) d) λi=>aB (aA i) λj=>aK .NotIn (.str (S "never")) (.tup [h,j])) λk=>aB ((iJ m k c d)) λl=>if l then(aA (.bool false))else(e (upd (upd c (S "b") d) (S "told") (.bool k)))
def eK (e:CT):V→LE→(LE→M V)→M V:=λa b c=>aB ((lO e b a)) λd=>if d then(aA (.bool false))else(ai6 e b a c)
def ai8 (c:CT)(a:LE→M V):LE→M V:=λb=>a b
def iK (h:CT):V→LE→(LE→M V)→M V:=λb c d=>aQ (c (S "t")) λe=>aB (aJ (.str (S "ones")) e) λf=>aB (bU f) λg=>b9 (still g (aP f)) (eK h) g (upd c (S "a") b) (ai8 h d)
def ai7 (b:CT):LE→M V:=λa=>aA (.bool true)
def y6 (c:CT)(w_ s_ t_:V):M V:=aB (aJ (.str (S "ones")) s_) λa=>aB (bU a) λb=>b9 (still b (aP a)) (iK c) b (upd (upd (upd e0 (S "w") w_) (S "s") s_) (S "t") t_) (ai7 c)
theorem ai9 (n:Nat)(w_ s_ t_:V):aD (n+1) (.fn 153 0) [w_,s_,t_]=y6 (aD n) w_ s_ t_:=(aO (f:=(aT 153 0).get rfl) rfl).trans (by ext)
def wE (k:CT):V→LE→(LE→M V)→M V:=λa b c=>aQ (b (S "host")) λd=>aB (aA d) λe=>aB (aA a) λf=>aB (jY k 110 [e,f]) λg=>aQ (b (S "w")) λh=>aB (aJ (.str (S "rels")) h) λi=>aB (b7 a g i) λj=>c (upd b (S "mode") a)
def wC (u:CT):V→LE→(LE→M V)→M V:=λa b c=>xD a λd=>eD d λe f=>eD f λg h=>yB h (aQ (b (S "tab")) λi=>aB (aA i) λj=>aB (aA e) λk=>aB (u (.fn 65 0) [j,(.int 5),k]) λl=>aB (aR (S "members") l) λm=>aB (bF (S "extend") m) λn=>cI (cG n) g λo=>aB (bD u n (S "extend") m [o]) λp=>aB (aR (S "did") l) λq=>aQ (b (S "w")) λr=>aB (aJ (.str (S "dids")) r) λs=>aB (b7 e q s) λt=>c (upd (upd (upd b (S "brand") e) (S "members") g) (S "decl") l))
def pB (r:CT)(a:LE)(b c:V):M Bool:=aB (aB (aQ (a (S "w")) λd=>aB (aA d) λe=>aB (aA b) λf=>aB (aA c) λg=>aB (r (.fn 152 0) [e,f,g]) λh=>aS h) λi=>ret !i) λj=>bV .Or j (aB (aB (aQ (a (S "w")) λk=>aB (aA k) λl=>aB (aA b) λm=>aB (aA c) λn=>aB (r (.fn 153 0) [l,m,n]) λo=>aS o) λp=>ret !p) λq=>bV .Or q (ret false) (ret q)) (ret j)
def pD (j:CT):V→LE→(LE→M V)→M V:=λa b c=>xD a λd=>eD d λe f=>eD f λg h=>yB h (aB ((pB j b e g)) λi=>if i then(aA (.bool false))else(c (upd (upd b (S "one") e) (S "other") g)))
def pA (i:CT)(a:V)(b:LE):M Bool:=aB (aK .Gt a (.int 9)) λc=>bV .Or c (aB (aQ (b (S "w")) λd=>aB (aJ (.str (S "next")) d) λe=>aQ (b (S "script")) λf=>aB (jG "len" [f]) λg=>aK .GtE e g) λh=>bV .Or h (ret false) (ret h)) (ret c)
abbrev wB (n:CT)(a:LE)(b:LE→M V):M V:=aQ (a (S "spent")) λc=>aQ (a (S "s")) λd=>aB (aJ (.str (S "ones")) d) λe=>aB (jG "len" [e]) λf=>aQ (a (S "t")) λg=>aB (aJ (.str (S "ones")) g) λh=>aB (jG "len" [h]) λi=>aB (i8 .Mult f i) λj=>aB (i8 .Add (.int 1) j) λk=>aB (jH .Add c k) λl=>aB ((pA n l a)) λm=>if m then(aA (.bool true))else(b (upd a (S "spent") l))
def kV (c:CT)(a:LE→M V):LE→M V:=λb=>wB c b a
abbrev aF6 (m:CT)(a:LE)(b c:V)(d:LE→M V):M V:=aQ (a (S "w")) λe=>aB (aA e) λf=>aB (m (.fn 143 0) [f]) λg=>aB (aA b) λh=>aB (aA g) λi=>aB (aA g) λj=>aB (aA b) λk=>aB (bU (.tup [(.tup [h,i]),(.tup [j,k])])) λl=>b9 (still l (aP (.tup [(.tup [h,i]),(.tup [j,k])]))) (pD m) l (upd (upd (upd a (S "go") c) (S "s") b) (S "t") g) (kV m d)
def e9 (g:CT):V→LE→(LE→M V)→M V:=λa b c=>aQ (b (S "w")) λd=>aB (aA d) λe=>aB (g (.fn 143 0) [e]) λf=>aF6 g b f a c
def aF7 (b:CT):LE→M V:=λa=>aA (.bool true)
def pC (j:CT):LE→M V:=λa=>aB (aQ (a (S "w")) λb=>aB (aA b) λc=>aB (j (.fn 138 0) [c,(.int 2)]) λd=>aK .Eq d (.int 1)) λe=>aQ (a (S "w")) λf=>aB (b7 (.str (S "turned")) (.bool e) f) λg=>aB (tyV "range" [(.int 6)]) λh=>aB (bU h) λi=>b9 (still i (aP h)) (e9 j) i (upd a (S "spent") (.int 0)) (aF7 j)
abbrev aF5 (e:CT)(c:LE):M V:=aB (bU (.tup [(.tup [(.str (S "E")),(.tup [(.tup [(.str (S "A")),(.int 1)]),(.tup [(.str (S "B")),(.int 2)]),(.tup [(.str (S "C")),(.int 1)])])]),(.tup [(.str (S "T")),(.tup [(.tup [(.str (S "P")),(.str (S "a"))]),(.tup [(.str (S "Q")),(.str (S "b"))])])]),(.tup [(.str (S "G")),(.tup [(.tup [(.str (S "X")),(.int 1)])])])])) λd=>b9 (still d (aP (.tup [(.tup [(.str (S "E")),(.tup [(.tup [(.str (S "A")),(.int 1)]),(.tup [(.str (S "B")),(.int 2)]),(.tup [(.str (S "C")),(.int 1)])])]),(.tup [(.str (S "T")),(.tup [(.tup [(.str (S "P")),(.str (S "a"))]),(.tup [(.str (S "Q")),(.str (S "b"))])])]),(.tup [(.str (S "G")),(.tup [(.tup [(.str (S "X")),(.int 1)])])])]))) (wC e) d c (pC e)
def tT (b:CT):LE→M V:=λa=>aF5 b a
abbrev aF4 (h:CT)(a b:V)(c script_:V):M V:=aB (bN (.dict [])) λd=>aB (bN (.dict [])) λe=>aB (bN (.dict [((.str (S "nums")),a),((.str (S "next")),(.int 0)),((.str (S "tab")),b),((.str (S "host")),c),((.str (S "dids")),d),((.str (S "rels")),e),((.str (S "turned")),(.bool false))])) λf=>aB (bU (.tup [(.int 1),(.int 2),(.int 4)])) λg=>b9 (still g (aP (.tup [(.int 1),(.int 2),(.int 4)]))) (wE h) g (upd (upd (upd (upd (upd e0 (S "script") script_) (S "script") a) (S "tab") b) (S "host") c) (S "w") f) (tT h)
def az8 (f:CT)(script_:V):M V:=aQ (cA (.int 63)) λa=>aB (iA a script_) λb=>aB (jY f 58 []) λc=>aB (aA c) λd=>aB (jY f 90 [d]) λe=>aF4 f b c e script_
theorem aF8 (n:Nat)(script_:V):aD (n+1) (.fn 154 0) [script_]=az8 (aD n) script_:=(aO (f:=(aT 154 0).get rfl) rfl).trans (by ext)
section
variable {α β:Type}{Y Y':H}
theorem st {m:M α}{f:α→M β}{a:α}(h:m Y=some (a,Y')):aB m f Y=f a Y':=by simp only[aB,h];rfl
theorem stT {m:M α}{f:α→M β}{a:α}{r}(h:m Y=some (a,Y'))(x:f a Y'=r):aB m f Y=r:=(st h).trans x
theorem stA {γ:Type}{m:M α}{f:α→M β}{g:β→M γ}{a:α}{r}(h:m Y=some (a,Y'))(x:aB (f a) g Y'=r):aB (aB m f) g Y=r:=(congrFun (aC m f g) Y).trans ((st h).trans x)
theorem assT {γ:Type}{m:M α}{f:α→M β}{g:β→M γ}{r}(x:aB m (λa=>aB (f a) g) Y=r):aB (aB m f) g Y=r:=(congrFun (aC m f g) Y).trans x
theorem optT {a:α}{k:α→M β}{r}(x:k a Y=r):aQ (some a) k Y=r:=x
theorem optR {o:Option α}{a:α}{k:α→M β}{r}(h:o=some a)(x:k a Y=r):aQ o k Y=r:=h▸x
theorem retT {a:α}{k:α→M β}{r}(x:k a Y=r):aB (ret a) k Y=r:=x
theorem ifpS {c:Prop} [Decidable c] {a b:M α}{r}(h:c)(x:a Y=r):(if c then a else b) Y=r:=(congrFun (if_pos h) Y).trans x
theorem ifpT {c:Prop} [Decidable c] {a b r:α}(h:c)(x:a=r):(if c then a else b)=r:=(if_pos h).trans x
theorem ifnS {c:Prop} [Decidable c] {a b:M α}{r}(h:¬c)(x:b Y=r):(if c then a else b) Y=r:=(congrFun (if_neg h) Y).trans x
theorem ifnT {c:Prop} [Decidable c] {a b r:α}(h:¬c)(x:b=r):(if c then a else b)=r:=(if_neg h).trans x
theorem bs1 {a:α}:ret a Y=some (a,Y):=rfl
theorem br5 {a b:M α}:bV .Or true a b=b:=rfl
theorem gM {a b:M α}:bV .Or false a b=a:=rfl
theorem dA {a b:M α}:bV .And true a b=a:=rfl
theorem bh5 {a b:M α}:bV .And false a b=b:=rfl
theorem aF {a:α}{k:α→M β}:aQ (some a) k=k a:=rfl
theorem eF {c j:Nat}{v:V}{k:V→M α}:cI (cG (.py c j)) v k=aB (aA v) k:=rfl
theorem fzpT {c j:Nat}{v:V}{k:V→M α}{r}(x:aB (aA v) k Y=r):cI (cG (.py c j)) v k Y=r:=x
theorem fzlT {v:V}{k:V→M α}{r}(x:k v Y=r):cI (cG .li) v k Y=r:=x
theorem jR {v:V}{k:V→M α}:cI (cG .li) v k=k v:=rfl
theorem ad2 {v:V}{k:V→M α}:cI (cG .di) v k=k v:=rfl
end
def Fr (P:Nat→Prop)(Y Y':H):Prop:=Y.length≤Y'.length∧∀n o,Y[n]?=some o→¬P n→Y'[n]?=some o
abbrev No:Nat→Prop:=λ_=>False
def T12:Nat→Prop:=λn=>n=1∨n=2
theorem Fr.rfl {P:Nat→Prop}{Y:H}:Fr P Y Y:=⟨zR,λ_ _ h _=>h⟩
theorem Fr.trans {P:Nat→Prop}{Y Y' Y'':H}(a:Fr P Y Y')(b:Fr P Y' Y''):Fr P Y Y'':=⟨zL a.1 b.1,λn o h q=>b.2 n o (a.2 n o h q) q⟩
theorem Fr.mono {P Q:Nat→Prop}{Y Y':H}(a:Fr P Y Y')(h:∀n,P n→Q n):Fr Q Y Y':=⟨a.1,λn o e q=>a.2 n o e λp=>q (h n p)⟩
theorem Fr.of {P:Nat→Prop}{Y Y':H}(a:Fr No Y Y'):Fr P Y Y':=a.mono λ_ q=>q.elim
theorem Fr.get {P:Nat→Prop}{Y Y':H}(a:Fr P Y Y'){n:Nat}{o:O}(h:Y[n]?=some o)(q:¬P n):Y'[n]?=some o:=a.2 n o h q
theorem Fr.app {P:Nat→Prop}{Y:H}{o:O}:Fr P Y (Y++[o]):=by
 refine⟨by simp,λn o h _=>?_⟩;obtain⟨hn,_⟩:=zG h;rw[List.getElem?_append_left hn];exact h
theorem Fr.set {P:Nat→Prop}{Y:H}{n:Nat}{o:O}(h:P n):Fr P Y (Y.set n o):=by
 refine⟨by simp,λm o' e q=>?_⟩;rw[List.getElem?_set_ne (λc=>q (by rw[←c];exact h))];exact e
theorem k9 {Y:H}{o:O}:(Y++[o])[Y.length]?=some o:=by simp
theorem cS {Y:H}{n:Nat}{o o':O}(h:Y[n]?=some o):(Y.set n o')[n]?=some o':=by
 obtain⟨hn,_⟩:=zG h;rw[List.getElem?_set_self hn]
theorem cH {Y:H}{n m:Nat}{o o':O}(h:Y[n]?=some o)(q:m≠n):(Y.set m o')[n]?=some o:=by
 rw[List.getElem?_set_ne q];exact h
theorem lV {Y:H}{n:Nat}{o:O}(h:Y[n]?=some o):n < Y.length:=(zG h).1
theorem aG5 {Y:H}{n:Nat}{o:O}(h:Y[n]?=some o):n≠Y.length:=Nat.ne_of_lt (lV h)
section
variable {Y:H}{n:Nat}
theorem j2 {o:O}(h:Y[n]?=some o):yY n Y=some (o,Y):=by
 show(Y[n]?).map (λo=>(o,Y))=_;rw[h];rfl
theorem o0 {xs:List V}(h:Y[n]?=some (.list xs)):rdL n Y=some (xs,Y):=by
 show aB (yY n) (λo=>bL (asL o)) Y=_;rw[st (j2 h)];rfl
theorem af5 {es:List (V×V)}(h:Y[n]?=some (.dict es)):rdD n Y=some (es,Y):=by
 show aB (yY n) (λo=>bL (mV o)) Y=_;rw[st (j2 h)];rfl
theorem bs3 {c:Nat}{fs:List (Str×V)}(h:Y[n]?=some (.inst c fs)):rdI n Y=some ((c,fs),Y):=by
 show aB (yY n) (λo=>bL (asI o)) Y=_;rw[st (j2 h)];rfl
def bN8 (x:Str)(fs:List (Str×V)):Option V:=if oO.contains x then(jW x fs).bind λv=>if oC v then some v else none else none
theorem bY {c:Nat}{fs:List (Str×V)}{x:Str}{v:V}(h:Y[n]?=some (.inst c fs))(e:bN8 x fs=some v):aR x (.ref n) Y=some (v,Y):=by
 unfold bN8 at e;by_cases q:oO.contains x=true
 ·rw[if_pos q]at e;obtain⟨v',h1,h2⟩:=zO e;by_cases q2:oC v'=true
  ·rw[if_pos q2]at h2;have h3:=Option.some.inj h2;subst v';show aB (dD (oO.contains x)) (λ_=>aB (rdI n) λp=>aB (bL (jW x p.2)) λv=>aB (dD (oC v)) λ_=>ret v) Y=_;rw[q];show aB (rdI n) (λp=>aB (bL (jW x p.2)) λv=>aB (dD (oC v)) λ_=>ret v) Y=_;rw[st (bs3 h)];show aB (bL (jW x fs)) (λv=>aB (dD (oC v)) λ_=>ret v) Y=_;rw[h1];show aB (dD (oC v)) (λ_=>ret v) Y=_;rw[q2];rfl
  ·rw[if_neg q2]at h2;cases h2
 ·rw[if_neg q]at e;cases e
theorem jF {c:Nat}{fs:List (Str×V)}{x:Str}{j:Nat}(h:Y[n]?=some (.inst c fs))(e:(if(jW x fs).isNone then rJ c x else none)=some j):bF x (.ref n) Y=some (.py c j,Y):=by
 by_cases q:(jW x fs).isNone=true
 ·rw[if_pos q]at e;show aB (yY n) (λo=>aA1 x o) Y=_;rw[st (j2 h)];show aB (dD (jW x fs).isNone) (λ_=>bL ((rJ c x).map (MK.py c))) Y=_;rw[q,e];rfl
 ·rw[if_neg q]at e;cases e
theorem dV {xs:List V}{x:Str}(h:Y[n]?=some (.list xs))(e:decide (x=S "append"∨x=S "extend"∨x=S "reverse"∨x=S "pop")=true):bF x (.ref n) Y=some (.li,Y):=by
 show aB (yY n) (λo=>aA1 x o) Y=_;rw[st (j2 h)];show aB (dD (decide (x=S "append"∨x=S "extend"∨x=S "reverse"∨x=S "pop"))) (λ_=>ret MK.li) Y=_;rw[e];rfl
theorem bj1 {es:List (V×V)}(h:Y[n]?=some (.dict es)):bF (S "get") (.ref n) Y=some (.di,Y):=by
 show aB (yY n) (λo=>aA1 (S "get") o) Y=_;rw[st (j2 h)];show aB (dD (decide (S "get"=S "get"))) (λ_=>ret MK.di) Y=_;rw[decide_eq_true rfl];rfl
theorem ao1 {c:Nat}{fs:List (Str×V)}(h:Y[n]?=some (.inst c fs)):aA (.ref n) Y=some (.ref n,Y):=by
 show aB (yY n) (λo=>wV n o) Y=_;rw[st (j2 h)];rfl
theorem wT {es:List (V×V)}(h:Y[n]?=some (.dict es)):aA (.ref n) Y=some (.ref n,Y):=by
 show aB (yY n) (λo=>wV n o) Y=_;rw[st (j2 h)];rfl
theorem ao0 {xs:List V}(h:Y[n]?=some (.list xs)):aA (.ref n) Y=some (.lst xs,Y.set n .gone):=by
 show aB (yY n) (λo=>wV n o) Y=_;rw[st (j2 h)];rfl
theorem aA9 {xs:List V}{i:Nat}{v:V}(h:Y[n]?=some (.list xs))(e:xs[i]?=some v):aJ (.int i) (.ref n) Y=some (v,Y):=by
 have hi:i < xs.length:=(zG e).1;have:fL xs (i:Int)=some v:=by
  simp only[fL,az4];rw[if_pos (by lia),if_pos (by lia)]
  simpa using e
 show aB (yY n) (λo=>aO5 (.int i) o) Y=_;rw[st (j2 h)];show bL (fL xs (i:Int)) Y=_;rw[this];rfl
theorem cY {es:List (V×V)}{k v:V}(h:Y[n]?=some (.dict es))(q:bM k (es.map (·.1))=true)(e:dM k es=some v):aJ k (.ref n) Y=some (v,Y):=by
 show aB (yY n) (λo=>aO5 k o) Y=_;rw[st (j2 h)];show aB (dD (bM k (es.map (·.1)))) (λ_=>bL (dM k es)) Y=_;rw[q,e];rfl
theorem sJ {es:List (V×V)}{k:V}(h:Y[n]?=some (.dict es))(q:bM k (es.map (·.1))=true):aK .In k (.ref n) Y=some ((dM k es).isSome,Y):=by
 show aB (yY n) (λo=>inO k o) Y=_;rw[st (j2 h)];show aB (dD (bM k (es.map (·.1)))) (λ_=>ret (dM k es).isSome) Y=_;rw[q];rfl
theorem aV4 {es:List (V×V)}{k:V}(h:Y[n]?=some (.dict es))(q:bM k (es.map (·.1))=true):aK .NotIn k (.ref n) Y=some (!(dM k es).isSome,Y):=by
 show aB (inV k (.ref n)) (λc=>ret !c) Y=_;rw[st (show inV k (.ref n) Y=_ from sJ h q)];rfl
theorem gL {es:List (V×V)}{k v:V}(h:Y[n]?=some (.dict es))(q:bM k (es.map (·.1))=true)(hl:es.length < 100000):b7 k v (.ref n) Y=some ((),Y.set n (.dict (put k v es))):=by
 show aB (rdD n) (λes=>aB (dD (bM k (es.map (·.1))&&decide (es.length < 100000))) λ_=>xJ n (.dict (put k v es))) Y=_;rw[st (af5 h),q,decide_eq_true hl];rfl
theorem aQ9 {es:List (V×V)}{k:V}(h:Y[n]?=some (.dict es))(q:bM k (es.map (·.1))=true)(hl:(dM k es).isSome=true):iW k (.ref n) Y=some ((),Y.set n (.dict (drop k es))):=by
 show aB (rdD n) (λes=>aB (dD (bM k (es.map (·.1))&&(dM k es).isSome)) λ_=>xJ n (.dict (drop k es))) Y=_;rw[st (af5 h),q,hl];rfl
theorem aP3 {call:CT}{es:List (V×V)}{k d:V}{x:Str}(h:Y[n]?=some (.dict es))(q:bM k (es.map (·.1))=true):bD call .di x (.ref n) [k,d] Y=some ((dM k es).getD d,Y):=by
 show aB (rdD n) (λes=>aB (dD (bM k (es.map (·.1)))) λ_=>ret ((dM k es).getD d)) Y=_;rw[st (af5 h),q];rfl
theorem len_list {xs:List V}(h:Y[n]?=some (.list xs)):jG "len" [.ref n] Y=some (.int xs.length,Y):=by
 show one (λx=>aB (c8 x) λxs=>ret (.int xs.length)) [.ref n] Y=_;show aB (rdL n) (λxs=>ret (V.int xs.length)) Y=_;rw[st (o0 h)];rfl
theorem lZ {call:CT}{xs:List V}{v:V}(h:Y[n]?=some (.list xs))(hl:xs.length < 100000):bD call .li (S "append") (.ref n) [v] Y=some (.none,Y.set n (.list (xs++[v]))):=by
 show aB (rdL n) (λxs=>aB (dD (decide (xs.length < 100000))) λ_=>if S "append"=S "append" then aB (xJ n (.list (xs++[v]))) λ_=>ret V.none
  else if S "append"=S "extend" then aB (yL v) λys=>aB (dD (decide (ys.length < 1000))) λ_=>aB (xJ n (.list (xs++ys))) λ_=>ret V.none else fail) Y=_
 rw[st (o0 h),decide_eq_true hl,if_pos rfl];rfl
theorem ao5 {call:CT}{xs ys:List V}(h:Y[n]?=some (.list xs))(hl:xs.length < 100000)(hy:ys.length < 1000):bD call .li (S "extend") (.ref n) [.lst ys] Y=some (.none,Y.set n (.list (xs++ys))):=by
 have q:¬(S "extend"=S "append"):=by decide
 show aB (rdL n) (λxs=>aB (dD (decide (xs.length < 100000))) λ_=>if S "extend"=S "append" then aB (xJ n (.list (xs++[.lst ys]))) λ_=>ret V.none
  else if S "extend"=S "extend" then aB (ret ys) λys=>aB (dD (decide (ys.length < 1000))) λ_=>aB (xJ n (.list (xs++ys))) λ_=>ret V.none else fail) Y=_
 rw[st (o0 h),decide_eq_true hl,if_neg q,if_pos rfl];show aB (dD (decide (ys.length < 1000))) (λ_=>aB (xJ n (.list (xs++ys))) λ_=>ret V.none) Y=_;rw[decide_eq_true hy];rfl
theorem n9 {xs:List V}(h:Y[n]?=some (.list xs)):bU (.ref n) Y=some (xs,Y):=by
 exact o0 h
theorem lC {xs:List V}(h:Y[n]?=some (.list xs)):still xs (some n) Y=some ((),Y):=by
 show aB (rdL n) (λys=>dD (decide (xs=ys))) Y=_;rw[st (o0 h),decide_eq_true rfl];rfl
theorem qJ {c:Nat}{fs:List (Str×V)}{x:Str}{v:V}(h:Y[n]?=some (.inst c fs))(q:(oO.contains x&&decide (fs.length < 100))=true):bH x v (.ref n) Y=some ((),Y.set n (.inst c (mZ x v fs))):=by
 obtain⟨q1,q2⟩:=zB q;show aB (dD (oO.contains x)) (λ_=>aB (rdI n) λp=>aB (dD (decide (p.2.length < 100))) λ_=>xJ n (.inst p.1 (mZ x v p.2))) Y=_;rw[q1];show aB (rdI n) (λp=>aB (dD (decide (p.2.length < 100))) λ_=>xJ n (.inst p.1 (mZ x v p.2))) Y=_;rw[st (bs3 h)];show aB (dD (decide (fs.length < 100))) (λ_=>xJ n (.inst c (mZ x v fs))) Y=_;rw[q2];rfl
theorem gS {o:O}:bN o Y=some (.ref Y.length,Y++[o]):=rfl
end
def U:=Fin 35
abbrev U.of (n:Fin 35):U:=n
def U.any:=U.of 0
def U.unk:=U.of 1
def U.nev:=U.of 2
def U.void:=U.of 3
def U.und:=U.of 4
def U.nul:=U.of 5
def U.str:=U.of 6
def U.num:=U.of 7
def U.ff:=U.of 8
def U.tt:=U.of 9
def U.obj:=U.of 10
def U.emp:=U.of 11
def U.err:=U.of 12
def U.fff:=U.of 13
def U.ftt:=U.of 14
def U.n1:=U.of 15
def U.n1f:=U.of 16
def U.n2:=U.of 17
def U.n2f:=U.of 18
def U.n7:=U.of 19
def U.n7f:=U.of 20
def U.sa:=U.of 21
def U.saf:=U.of 22
def U.sb:=U.of 23
def U.sbf:=U.of 24
def U.ea:=U.of 25
def U.eaf:=U.of 26
def U.eb:=U.of 27
def U.ebf:=U.of 28
def U.tp:=U.of 29
def U.tpf:=U.of 30
def U.tq:=U.of 31
def U.tqf:=U.of 32
def U.gx:=U.of 33
def U.gxf:=U.of 34
def qC:List U:=[.any,.unk,.nev,.void,.und,.nul,.str,.num,.ff,.tt,.obj,.emp,.err,.fff,.ftt,.n1,.n1f,.n2,.n2f,.n7,.n7f,.sa,.saf,.sb,.sbf,.ea,.eaf,.eb,.ebf,.tp,.tpf,.tq,.tqf,.gx,.gxf]
instance:DecidableEq U:=inferInstanceAs (DecidableEq (Fin 35))
inductive Row where
 | u (x:U) | un (ps:List Nat)
 deriving DecidableEq
def ik (i:Int)(s:String):V:=.tup [.int i,.str (S s)]
def uN (u:U):V:=[ik 1 "any",ik 1 "unknown",ik 1 "never",ik 1 "void",ik 1 "undefined",ik 1 "null",ik 1 "string",ik 1 "number",.tup [.int 2,.int 0,.int 0],.tup [.int 2,.int 1,.int 0],ik 1 "object",.tup [.int 8,.tup [],.tup [],.tup [],.tup [],.tup [],.int 0],ik 1 "error",.tup [.int 2,.int 0,.int 1],.tup [.int 2,.int 1,.int 1],.tup [.int 4,.int 1,.int 0],.tup [.int 4,.int 1,.int 1],.tup [.int 4,.int 2,.int 0],.tup [.int 4,.int 2,.int 1],.tup [.int 4,.int 7,.int 0],.tup [.int 4,.int 7,.int 1],.tup [.int 3,.str (S "a"),.int 0],.tup [.int 3,.str (S "a"),.int 1],.tup [.int 3,.str (S "b"),.int 0],.tup [.int 3,.str (S "b"),.int 1],.tup [.int 5,.int 1,.str (S "A"),.int 1,.int 0],.tup [.int 5,.int 1,.str (S "A"),.int 1,.int 1],.tup [.int 5,.int 1,.str (S "B"),.int 2,.int 0],.tup [.int 5,.int 1,.str (S "B"),.int 2,.int 1],.tup [.int 5,.int 2,.str (S "P"),.str (S "a"),.int 0],.tup [.int 5,.int 2,.str (S "P"),.str (S "a"),.int 1],.tup [.int 5,.int 2,.str (S "Q"),.str (S "b"),.int 0],.tup [.int 5,.int 2,.str (S "Q"),.str (S "b"),.int 1],.tup [.int 5,.int 3,.str (S "X"),.int 1,.int 0],.tup [.int 5,.int 3,.str (S "X"),.int 1,.int 1]].getD u.1 .none
def bQ (ps:List Nat):List V:=ps.map λ(p:Nat)=>V.int p
def cB:Row→V
 | .u x=>uN x
 | .un ps=>.tup [.int 6,.tup (bQ ps)]
theorem eV (x:U):x∈qC:=zE ((by nofun:∀n,(h:n < 35)→qC[n]?=some (U.of ⟨n,h⟩)) x.1 x.2)
theorem iS {α:Type}{p:U→Bool}{f g:U→α}(a:U)(k:p a=true)(h:(qC.filter p).map f=(qC.filter p).map g):f a=g a:=List.map_inj_left.mp h a (List.mem_filter.mpr ⟨eV a,k⟩)
theorem gF {α:Type}{f g:U→α}(a:U)(h:qC.map f=qC.map g):f a=g a:=List.map_inj_left.mp h a (eV a)
theorem bm2 {f:U→Bool}(h:qC.all f=true)(a:U):f a=true:=zA h a (eV a)
def first:List Row:=[.u .any,.u .unk,.u .nev,.u .void,.u .und,.u .nul,.u .str,.u .num,.u .ff,.u .tt,.u .obj,.u .emp,.un [8,9],.u .err,.u .fff,.u .ftt]
def iV (u:U):Bool:=decide (u∈[U.fff,.ftt,.n1f,.n2f,.n7f,.saf,.sbf,.eaf,.ebf,.tpf,.tqf,.gxf])
def aL (u:U):U:=([.any,.unk,.nev,.void,.und,.nul,.str,.num,.ff,.tt,.obj,.emp,.err,.ff,.tt,.n1,.n1,.n2,.n2,.n7,.n7,.sa,.sa,.sb,.sb,.ea,.ea,.eb,.eb,.tp,.tp,.tq,.tq,.gx,.gx]:List U).getD u.1 u
def d6 (u:U):Int:=if u∈[U.sa,.saf,.sb,.sbf,.tp,.tpf,.tq,.tqf]then 6 else if u∈[U.n1,.n1f,.n2,.n2f,.n7,.n7f,.ea,.eaf,.eb,.ebf,.gx,.gxf]then 7 else -1
def cb8 (u:U):Bool:=decide (u∉[U.any,.unk,.nev,.void,.und,.nul,.str,.num,.obj,.emp,.err])
def cL (u:U):Int:=if u∈[U.ff,.tt,.fff,.ftt]then 2 else if u=.emp then 8 else if u∈[U.sa,.saf,.sb,.sbf]then 3 else if u∈[U.n1,.n1f,.n2,.n2f,.n7,.n7f]then 4 else if u∈[U.ea,.eaf,.eb,.ebf,.tp,.tpf,.tq,.tqf,.gx,.gxf]then 5 else 1
def kF:Row→Bool | .u x=>iV x | .un _=>false
def mY:Row→Row | .u x=>.u (aL x) | r=>r
def aT4:Row→Int | .u x=>d6 x | .un _=>-1
def bG5:Row→Bool | .u x=>cb8 x | .un _=>false
def jX:Row→Int | .u x=>cL x | .un _=>6
theorem bM5 (x:U):¬decide (jX (.u x)=6)=true:=by
 have:=bm2 (f:=λx=>!decide (jX (.u x)=6)) (by nofun) x;intro h;rw[h]at this;cases this
theorem bw8:∀{ps qs:List Nat},bQ ps=bQ qs→ps=qs:=by
 intro ps
 induction ps with
 | nil=>intro qs h;cases qs with
  | nil=>rfl
  | cons _ _=>cases h
 | cons p ps ih=>
  intro qs h;cases qs with
  | nil=>cases h
  | cons q qs=>
  have h:=List.cons.inj h;rw[ih h.2,Int.ofNat_inj.mp (V.int.inj h.1)]
theorem aE7:(qC.all λx=>qC.all λy=>!(V.beq (uN x) (uN y))||decide (x=y))=true:=by ext
theorem br8 {x y:U}(h:uN x=uN y):x=y:=by
 have:=zA (zA aE7 x (eV x)) y (eV y);rw[h,V.beq_self]at this
 simpa using this
def cc4:V→Bool | .tup (.int 6::_)=>true | _=>false
theorem bb4 (x:U):cc4 (uN x)=false:=by apply gF x;ext
theorem aQ3 {r q:Row}(h:cB r=cB q):r=q:=by
 cases r with
 | u x=>cases q with
  | u y=>rw[br8 h]
  | un ps=>have:=bb4 x;rw[show uN x=_ from h]at this;cases this
 | un ps=>cases q with
  | u y=>have:=bb4 y;rw[show uN y=_ from h.symm]at this;cases this
  | un qs=>
   simp only[cB,V.tup.injEq,List.cons.injEq]at h;rw[bw8 h.2.1]
def nK (tb:List Row):List (V×V):=tb.zipIdx.map λp=>(cB p.1,V.int p.2)
theorem aA5 (n:Nat):∀ps,wP n (bQ ps)=true
 | []=>rfl
 | p::ps=>by
  show(pK n (.int p)&&wP n (bQ ps))=true;rw[aA5 n ps];cases n<;>rfl
theorem bv5 (r:Row):kT (cB r)=true:=by
 cases r with
 | u x=>apply gF x;ext
 | un ps=>
  show pK 5 (.tup [.int 6,.tup (bQ ps)])=true;show(true&&(wP 3 (bQ ps)&&true))=true;rw[aA5];rfl
theorem bw7 (tb:List Row):(nK tb).map (·.1)=tb.map cB:=by
 simp only[nK,List.map_map];have:∀(l:List Row) (k:Nat),(l.zipIdx k).map ((λx:V×V=>x.1) ∘ λp=>(cB p.1,V.int p.2))=l.map cB:=by
  intro l
  induction l with
  | nil=>intro k;rfl
  | cons x r ih=>intro k;simp only[List.zipIdx_cons,List.map_cons];rw[ih];rfl
 exact this tb 0
theorem an5 (tb:List Row)(r:Row):bM (cB r) ((nK tb).map (·.1))=true:=by
 rw[bw7];simp only[bM,bv5,Bool.true_and,Bool.or_eq_true];right;rw[List.all_eq_true];intro x hx;obtain⟨q,_,rfl⟩:=zM hx;exact bv5 q
theorem wM {r:Row}:∀{tb:List Row} {i:Nat} (k:Nat),tb.Nodup→tb[i]?=some r→dM (cB r) ((tb.zipIdx k).map λp=>(cB p.1,V.int p.2))=some (.int (i+k:Nat)):=by
 intro tb
 induction tb with
 | nil=>intro i k _ h;cases h
 | cons q tb ih=>
  intro i k nd h;cases i with
  | zero=>
   rw[←show q=r from Option.some.inj h];simp only[List.zipIdx_cons,List.map_cons,f9,if_true,Nat.zero_add]
  | succ i=>
  replace h:tb[i]?=some r:=h;have nd':=List.nodup_cons.mp nd;have ne:¬cB q=cB r:=λe=>nd'.1 (aQ3 e▸zE h);simp only[List.zipIdx_cons,List.map_cons,f9,if_neg ne];rw[ih (k+1) nd'.2 h];congr 3;lia
theorem ax1 {r:Row}:∀{tb:List Row} (k:Nat),r∉tb→dM (cB r) ((tb.zipIdx k).map λp=>(cB p.1,V.int p.2))=none:=by
 intro ll
 induction ll with
 | nil=>
  intro k _;exact rfl
 | cons q tb ih=>
  intro k h;have ne:¬cB q=cB r:=λe=>h (aQ3 e▸zS);simp only[List.zipIdx_cons,List.map_cons,f9,if_neg ne];exact ih (k+1) λm=>h (zC _ m)
theorem af7 {k v:V}:∀{es:List (V×V)},dM k es=none→put k v es=es++[(k,v)]:=by
 intro ll
 induction ll with
 | nil=>
  intro _;exact rfl
 | cons e r ih=>
  intro h;rw[f9]at h;by_cases q:e.1=k
  ·rw[if_pos q]at h;cases h
  ·rw[if_neg q]at h;simp only[qM,if_neg q,ih h,List.cons_append]
theorem bH9 (tb:List Row)(r:Row):nK (tb++[r])=nK tb++[(cB r,.int tb.length)]:=by
 simp[nK,List.zipIdx_append]
def bE1:List (Str×V):=[(S "rows",.ref 1),(S "index",.ref 2),(S "decls",.ref 3),(S "bounds",.ref 4),(S "defaults",.ref 5),(S "names",.ref 6),(S "origins",.ref 7),(S "renamed",.ref 8),(S "shaping",.int 0),(S "putting",.int 0)]
structure TbOk (tb:List Row):Prop where
 pre:first <+: tb
 nd:tb.Nodup
structure TabAt (Y:H) (tb:List Row):Prop where
 ok:TbOk tb
 h0:Y[0]?=some (.inst 58 bE1)
 h1:Y[1]?=some (.list (tb.map cB))
 h2:Y[2]?=some (.dict (nK tb))
section
variable {Y Y':H}{tb tb':List Row}{t n:Nat}{r:Row}
namespace TabAt
theorem rows (T:TabAt Y tb):aR (S "rows") (.ref 0) Y=some (.ref 1,Y):=bY T.h0 (by ext)
theorem index (T:TabAt Y tb):aR (S "index") (.ref 0) Y=some (.ref 2,Y):=bY T.h0 (by ext)
theorem decls (T:TabAt Y tb):aR (S "decls") (.ref 0) Y=some (.ref 3,Y):=bY T.h0 (by ext)
theorem put (T:TabAt Y tb):bF (S "put") (.ref 0) Y=some (.py 58 3,Y):=jF T.h0 (by ext)
theorem get (T:TabAt Y tb):bF (S "get") (.ref 2) Y=some (.di,Y):=bj1 T.h2
theorem app (T:TabAt Y tb):bF (S "append") (.ref 1) Y=some (.li,Y):=dV T.h1 (by ext)
theorem frz (T:TabAt Y tb):aA (.ref 0) Y=some (.ref 0,Y):=ao1 T.h0
theorem item (T:TabAt Y tb)(h:tb[t]?=some r):aJ (.int t) (.ref 1) Y=some (cB r,Y):=aA9 T.h1 (by simp[h])
theorem look_some (T:TabAt Y tb)(h:tb[t]?=some r):dM (cB r) (nK tb)=some (.int t):=wM 0 T.ok.nd h
theorem look_none (T:TabAt Y tb)(h:r∉tb):dM (cB r) (nK tb)=none:=ax1 0 h
theorem isin (T:TabAt Y tb)(r:Row):aK .In (cB r) (.ref 2) Y=some (decide (r∈tb),Y):=by
 rw[sJ T.h2 (an5 tb r)];by_cases q:r∈tb
 ·obtain⟨i,hi⟩:=List.mem_iff_getElem?.mp q;rw[T.look_some hi];simp[q]
 ·rw[T.look_none q];simp[q]
theorem idx (T:TabAt Y tb)(h:tb[t]?=some r):aJ (cB r) (.ref 2) Y=some (.int t,Y):=cY T.h2 (an5 tb r) (T.look_some h)
theorem fr {P:Nat→Prop}(T:TabAt Y tb)(F:Fr P Y Y')(p0:¬P 0)(p1:¬P 1)(p2:¬P 2):TabAt Y' tb:=⟨T.ok,F.get T.h0 p0,F.get T.h1 p1,F.get T.h2 p2⟩
end TabAt
structure Tab (k:Nat) (Y:H) (tb:List Row) (Y':H) (tb':List Row):Prop where
 at':TabAt Y' tb'
 pre:tb <+: tb'
 len:tb'.length≤tb.length+k
 fr:Fr T12 Y Y'
namespace Tab
theorem refl (T:TabAt Y tb):Tab 0 Y tb Y tb:=⟨T,List.prefix_rfl,zR,Fr.rfl⟩
theorem trans {k l:Nat}{Y'':H}{tb'':List Row}(a:Tab k Y tb Y' tb')(b:Tab l Y' tb' Y'' tb''):Tab (k+l) Y tb Y'' tb'':=
 ⟨b.at',a.pre.trans b.pre,by have:=a.len;have:=b.len;lia,a.fr.trans b.fr⟩
theorem mono {k l:Nat}(a:Tab k Y tb Y' tb')(h:k≤l):Tab l Y tb Y' tb':=⟨a.at',a.pre,by have:=a.len;lia,a.fr⟩
theorem at_ {k:Nat}(a:Tab k Y tb Y' tb')(h:tb[t]?=some r):tb'[t]?=some r:=by
 obtain⟨x,rfl⟩:=a.pre;obtain⟨hn,_⟩:=zG h;rw[List.getElem?_append_left hn];exact h
theorem same {k:Nat}(a:Tab k Y tb Y' tb')(T:TabAt Y tb)(h:tb'=tb):Fr No Y Y':=by
 subst h;refine⟨a.fr.1,λn o e _=>?_⟩;by_cases q:n=1
 ·subst q;rw[a.at'.h1,←e,T.h1]
 ·by_cases q2:n=2
  ·subst q2;rw[a.at'.h2,←e,T.h2]
  ·exact a.fr.2 n o e λc=>c.elim q q2
end Tab
end
section
variable {Y Y':H}{tb tb':List Row}{t n:Nat}{r:Row}{call:CT}
theorem fB (r:Row):aA (cB r) Y=some (cB r,Y):=by
 cases r with
 | u x=>apply gF x;ext
 | un ps=>rfl
theorem uJ {β:Type}{vs:List V}{k:List V→M β}:xD (.tup vs) k=k vs:=rfl
theorem pO {β:Type}{v:V}{vs:List V}{k:V→List V→M β}:eD (v::vs) k=k v vs:=rfl
theorem uV {β:Type}{k:M β}:yB [] k=k:=rfl
theorem aH (i:Int):aA (.int i) Y=some (.int i,Y):=rfl
theorem bW (i:Bool):aA (.bool i) Y=some (.bool i,Y):=rfl
theorem iU (xs:List V):aA (.tup xs) Y=some (.tup xs,Y):=rfl
theorem aH7 (xs:List V):aA (.lst xs) Y=some (.lst xs,Y):=rfl
theorem be0 (x:Str):aA (.str x) Y=some (.str x,Y):=rfl
theorem bq6 (h:TbOk tb)(q:r∉tb):TbOk (tb++[r]):=⟨h.pre.trans (List.prefix_append _ _),by
 rw[List.nodup_append];exact⟨h.nd,by simp,λa ha b hb=>by simp at hb;subst hb;intro e;exact q (e▸ha)⟩⟩
theorem bz8 (n:Nat)(T:TabAt Y tb)(r:Row)(hl:tb.length < 90000):∃t tb' Y',aD (n+1) (.fn 58 3) [.ref 0,cB r] Y=some (.int (t:Nat),Y')∧Tab 1 Y tb Y' tb'∧tb'[t]?=some r∧(r∈tb→tb'=tb∧Y'=Y):=by
 rw[aM7];unfold aM8;rw[aC,st T.index,st (T.isin r)];by_cases q:r∈tb
 ·obtain⟨i,hi⟩:=List.mem_iff_getElem?.mp q;rw[if_pos (decide_eq_true q),st T.index,st (T.idx hi),aH];exact⟨i,tb,Y,rfl,(Tab.refl T).mono (by lia),hi,λ_=>⟨rfl,rfl⟩⟩
 ·rw[if_neg (by simp[q])];unfold y9;rw[st T.rows,st (len_list T.h1),st T.rows,st T.app,jR,st (lZ T.h1 (by simp;lia))];have n12:(1:Nat)≠2:=by lia
  have h0':(Y.set 1 (.list (tb.map cB++[cB r])))[0]?=some (.inst 58 bE1):=cH T.h0 (by lia);have h2':(Y.set 1 (.list (tb.map cB++[cB r])))[2]?=some (.dict (nK tb)):=cH T.h2 (by lia);rw[st (bY h0' (v:=.ref 2) (by ext)),st (gL h2' (an5 tb r) (by simp[nK];lia)),aH];rw[List.length_map];refine⟨tb.length,tb++[r],_,rfl,⟨⟨bq6 T.ok q,?_,?_,?_⟩,List.prefix_append _ _,by simp,?_⟩,by simp,λh=>absurd h q⟩
  ·exact cH h0' (by lia)
  ·rw[cH (cS T.h1) (by lia)];simp[List.map_append]
  ·rw[cS h2',af7 (T.look_none q),bH9]
  ·exact(Fr.set (.inl rfl)).trans (Fr.set (.inr rfl))
theorem aZ7 (n:Nat)(T:TabAt Y tb)(h:tb[t]?=some r):aD (n+1) (.fn 60 0) [.ref 0,.int t] Y=some (.int (jX r),Y):=by
 rw[aF9];unfold az9;rw[st T.rows,st (T.item h)];cases r with
 | u x=>apply gF x;ext
 | un ps=>ext
theorem bZ8 (n:Nat)(T:TabAt Y tb)(h:tb[t]?=some r):aD (n+1) (.fn 73 0) [.ref 0,.int t] Y=some (.bool (bG5 r),Y):=by
 rw[ab5];unfold wH;rw[aC,st T.rows,aC,st (T.item h)];cases r with
 | u x=>apply gF x;ext
 | un ps=>ext
theorem bK4 (n:Nat)(T:TabAt Y tb)(h:tb[t]?=some r):aD (n+1) (.fn 74 0) [.ref 0,.int t] Y=some (.bool (kF r),Y):=by
 rw[aw2];unfold ak5;rw[st T.rows,st (T.item h)];cases r with
 | u x=>apply gF x;ext
 | un ps=>ext
theorem lA (n:Nat)(r:Row)(Y:H):aD (n+1) (.fn 67 0) [cB r] Y=some (.int (aT4 r),Y):=by
 rw[vL];cases r with
 | u x=>apply gF x;ext
 | un ps=>ext
theorem bb6 {α:Type}(h:kF r=true)(k:V→M α):(aQ (cA (.int (-1))) λi=>aB (iA i (cB r)) λv=>aB (i8 .Add v (.tup [.int 0])) k)=k (cB (mY r)):=by
 cases r with
 | u x=>apply iS (p:=λx=>kF (.u x)) x h;ext
 | un ps=>cases h
theorem bF0 (h:kF r=false):mY r=r:=by
 cases r with
 | u x=>exact congrArg Row.u (by apply iS (p:=λx=>!iV x) (f:=aL) (g:=λx=>x) x (by rw[show iV x=false from h];rfl);ext)
 | un ps=>rfl
theorem jS (n:Nat)(T:TabAt Y tb)(h:tb[t]?=some r)(hl:tb.length < 90000) :
  ∃t' tb' Y',aD (n+2) (.fn 75 0) [.ref 0,.int t] Y=some (.int (t':Nat),Y')∧Tab 1 Y tb Y' tb'∧tb'[t']?=some (mY r)∧(mY r∈tb→tb'=tb∧Y'=Y):=by
 rw[xR];unfold tJ;rw[aC,st T.frz,aC,st (aH _),aC,st (bK4 n T h)];cases q:kF r with
 | false=>
  rw[st (show aS (.bool false) Y=some (false,Y)from rfl),if_neg (by simp),aH,bF0 q];exact⟨t,tb,Y,rfl,(Tab.refl T).mono (by lia),h,λ_=>⟨rfl,rfl⟩⟩
 | true=>
  rw[st (show aS (.bool true) Y=some (true,Y)from rfl),if_pos rfl];unfold nS;rw[st T.put,st T.rows,st (T.item h),bb6 q,eF,st (fB _)];obtain⟨t',tb',Y',e,a,b,c⟩:=bz8 n T (mY r) hl;have e':bD (aD (n+1)) (.py 58 3) (S "put") (.ref 0) [cB (mY r)] Y=some (.int t',Y'):=e;rw[st e',aH];exact⟨t',tb',Y',rfl,a,b,c⟩
def cN (tb:List Row)(t:Nat):List Nat:=if t=2 then[]else match tb[t]? with
 | some (.un ps)=>ps
 | _=>[t]
theorem aW {a b:Int}:aK .Eq (.int a) (.int b) Y=some (decide (a=b),Y):=by
 show some ((PyData.eqv (.int a) (.int b)),Y)=_;simp[PyData.eqv,BEq.beq]
theorem pG {a b:Int}:aK .NotEq (.int a) (.int b) Y=some (!decide (a=b),Y):=by
 show some (!(PyData.eqv (.int a) (.int b)),Y)=_;simp[PyData.eqv,BEq.beq]
theorem iY (n:Nat)(T:TabAt Y tb)(h:tb[t]?=some r):aD (n+1) (.fn 66 0) [.ref 0,.int t] Y=some (.tup (bQ (cN tb t)),Y):=by
 rw[as1];unfold ah5;rw[st aW];by_cases q:t=2
 ·subst q;rw[if_pos (show decide (((2:Nat):Int)=2)=true from rfl)];rfl
 ·rw[if_neg (by simp;lia),st T.rows,st (T.item h)];cases r with
  | u x=>rw[show cN tb t=[t]from(if_neg q).trans (congrArg (λo:Option Row=>match o with | some (.un ps)=>ps | _=>[t]) h)];apply gF x;ext
  | un ps=>rw[show cN tb t=ps from(if_neg q).trans (congrArg (λo:Option Row=>match o with | some (.un ps)=>ps | _=>[t]) h)];ext
def fW (J:List Nat):List (V×V):=J.map λ(p:Nat)=>(V.int p,V.int 1)
theorem aP0 (J:List Nat):(fW J).map (·.1)=bQ J:=by simp[fW,bQ]
theorem yK (i:Int)(J:List Nat):bM (.int i) ((fW J).map (·.1))=true:=by
 rw[aP0];have h:(bQ J).all kI=true:=by
  rw[List.all_eq_true];intro x hx;obtain⟨p,_,rfl⟩:=zM hx;rfl
 show((kI (.int i)&&(bQ J).all kI)||_||_)=true;rw[h];rfl
def inJ (i:Int)(J:List Nat):Bool:=J.any λ(q:Nat)=>decide ((q:Int)=i)
theorem am5 (i:Int):∀J:List Nat,(dM (.int i) (fW J)).isSome=inJ i J:=by
 intro ll
 induction ll with
 | nil=>
  exact rfl
 | cons p J ih=>
  simp only[fW,List.map_cons,f9,inJ,List.any_cons,V.int.injEq];by_cases q:(p:Int)=i
  ·simp[q]
  ·rw[if_neg q];simp only[q,decide_false,Bool.false_or];exact ih
def dQ (J:List Nat)(x:Nat):List Nat:=if x∈J then J else J++[x]
theorem vI (x:Nat):∀J:List Nat,put (.int x) (.int 1) (fW J)=fW (dQ J x):=by
 intro ll
 induction ll with
 | nil=>
  exact rfl
 | cons p J ih=>
  simp only[fW,List.map_cons,qM,V.int.injEq];by_cases q:(p:Int)=x
  ·have:p=x:=by lia
   subst this;simp[dQ,fW]
  ·have:¬x=p:=by lia
   rw[if_neg q];simp only[fW]at ih;rw[ih];unfold dQ;by_cases m:x∈J<;>simp[m,this]
theorem ad0 (x:Nat)(J:List Nat):inJ x J=decide (x∈J):=by
 unfold inJ;rw[Bool.eq_iff_iff];simp only[List.any_eq_true,decide_eq_true_eq];constructor
 ·rintro⟨q,hq,e⟩;have:q=x:=by lia
  exact this▸hq
 ·intro h;exact⟨x,h,rfl⟩
theorem bU0 (n:Nat)(T:TabAt Y tb)(h:tb[t]?=some r):∃z:Int,aD (n+1) (.fn 68 0) [.ref 0,.int t] Y=some (.int z,Y)∧∀q:Nat,(q:Int)=z↔kF r=true∧tb[q]?=some (mY r):=by
 rw[vW];unfold q7;rw[st T.rows,st (T.item h)];have e1:(aB (aB (aJ (.int 0) (cB r)) λv3=>aK .In v3 (.tup [(.int 2),(.int 3),(.int 4),(.int 5),(.int 8)])) λb4=>
   bV .And b4 (aB (aB (aJ (.int (-1)) (cB r)) λv5=>aK .Eq v5 (.int 1)) λb6=>bV .And b6 (ret true) (ret b6)) (ret b4))=ret (kF r):=by
  cases r with
  | u x=>apply gF x;ext
  | un ps=>ext
 rw[e1,cM];cases q:kF r with
 | false=>
  refine⟨-1,rfl,λq=>⟨λe=>by lia,λe=>?_⟩⟩;cases e.1
 | true=>
  rw[if_pos rfl];unfold mO;rw[st T.index,st T.get,bb6 q,ad2,ad2,st (aP3 T.h2 (an5 tb _))];by_cases m:mY r∈tb
  ·obtain⟨i,hi⟩:=List.mem_iff_getElem?.mp m;rw[T.look_some hi];refine⟨i,rfl,λq=>⟨λe=>?_,λe=>?_⟩⟩
   ·have:q=i:=by lia
    subst this;exact⟨rfl,hi⟩
   ·have:=e.2
    have hq:=(zG this).1;have:=(List.getElem?_inj hq T.ok.nd).mp (this.trans hi.symm);lia
  ·rw[T.look_none m];refine⟨-1,rfl,λq=>⟨λe=>by lia,λe=>absurd (zE e.2) m⟩⟩
def xH (tb:List Row)(J:List Nat)(r:Row):Bool:=!(kF r&&J.any λq=>tb[q]?==some (mY r))&&!inJ (aT4 r) J
theorem bK1 (n:Nat){g:Nat}{J:List Nat}(T:TabAt Y tb)(hg:Y[g]?=some (.dict (fW J)))(h:tb[t]?=some r):aD (n+2) (.fn 70 0) [.ref 0,.ref g,.int t] Y=some (.bool (xH tb J r),Y):=by
 rw[vU];unfold qW;obtain⟨z,e,hz⟩:=bU0 n T h;rw[aC,st T.frz,aC,st (aH _),aC,st e,st (sJ hg (yK _ _)),am5];have e1:inJ z J=(kF r&&J.any λq=>tb[q]?==some (mY r)):=by
  rw[Bool.eq_iff_iff];simp only[inJ,List.any_eq_true,decide_eq_true_eq,Bool.and_eq_true,beq_iff_eq];constructor
  ·rintro⟨q,hq,eq⟩;have:=(hz q).mp eq;exact⟨this.1,q,hq,this.2⟩
  ·rintro⟨a,q,hq,b⟩;exact⟨q,hq,(hz q).mpr ⟨a,b⟩⟩
 rw[e1];unfold xH;cases (kF r&&J.any λq=>tb[q]?==some (mY r))with
 | true=>rfl
 | false=>
  rw[if_neg (by simp),aC,st T.rows,aC,st (T.item h),aC,st (fB _),aC,st (lA n r Y),st (aV4 hg (yK _ _)),am5];rfl
def cK (J:List Nat):List Nat:=if(8∈J∨14∈J)∧(9∈J∨15∈J)then dQ (dQ J 8) 9 else J
theorem uY {g:Nat}{J:List Nat}(hg:Y[g]?=some (.dict (fW J)))(x:Nat):aK .In (.int x) (.ref g) Y=some (decide (x∈J),Y):=by
 rw[sJ hg (yK _ _),am5,ad0]
theorem bU8 (n:Nat){g:Nat}{J:List Nat}(hg:Y[g]?=some (.dict (fW J)))(hl:J.length < 1000):aD (n+1) (.fn 69 0) [.ref g] Y=some (.none,Y.set g (.dict (fW (cK J)))):=by
 rw[ab4];unfold wG;have e1:(aB (aB (aK .In (.int 8) (.ref g)) λb1=>bV .Or b1 (aB (aK .In (.int 14) (.ref g)) λb2=>bV .Or b2 (ret false) (ret b2)) (ret b1)) λb3=>
   bV .And b3 (aB (aB (aK .In (.int 9) (.ref g)) λb4=>bV .Or b4 (aB (aK .In (.int 15) (.ref g)) λb5=>bV .Or b5 (ret false) (ret b5)) (ret b4)) λb6=>bV .And b6 (ret true) (ret b6)) (ret b3)) Y =
   some (decide ((8∈J∨14∈J)∧(9∈J∨15∈J)),Y):=by
  have h8:aK .In (.int 8) (.ref g) Y=some (decide (8∈J),Y):=uY hg 8;have h14:aK .In (.int 14) (.ref g) Y=some (decide (14∈J),Y):=uY hg 14;have h9:aK .In (.int 9) (.ref g) Y=some (decide (9∈J),Y):=uY hg 9;have h15:aK .In (.int 15) (.ref g) Y=some (decide (15∈J),Y):=uY hg 15;rw[aC,st h8];by_cases a:8∈J<;>by_cases b:14∈J<;>by_cases c:9∈J<;>by_cases d:15∈J <;>
   simp only[a,b,c,d,decide_true,decide_false,true_or,or_true,or_self,true_and,and_true,and_false,false_and,and_self]at h8 h14 h9 h15 ⊢ <;>
   simp only[br5,gM,cM,dA,bh5,aC,st h8,st h14,st h9,st h15,bs1]
 rw[st e1];unfold cK;by_cases q:(8∈J∨14∈J)∧(9∈J∨15∈J)
 ·have hlen:(dQ J 8).length≤J.length+1:=by unfold dQ;split<;>simp
  rw[if_pos (decide_eq_true q),if_pos q,st (gL hg (yK _ _) (by simp[fW];lia)),st (gL (cS hg) (by rw[show put (.int 8) (.int 1) (fW J)=_ from vI 8 J];exact yK _ _) (by
   rw[show put (.int 8) (.int 1) (fW J)=_ from vI 8 J];simp[fW];lia))]
  rw[show put (.int 8) (.int 1) (fW J)=_ from vI 8 J,show put (.int 9) (.int 1) (fW (dQ J 8))=_ from vI 9 _,List.set_set];rfl
 ·rw[if_neg (by simpa using q),if_neg q];have:Y.set g (.dict (fW J))=Y:=by
   obtain⟨hn,e⟩:=zG hg;rw[←e];exact List.set_getElem_self hn
  rw[this];rfl
end
section
variable {Y Y':H}{tb tb':List Row}{t n:Nat}{r:Row}{call:CT}
theorem ba6 {a b:String}(h:a.toList.map Char.toNat≠b.toList.map Char.toNat):S a≠S b:=by
 intro e;simp only[S,Str.ofString_eq_toList,Str.mk.injEq]at e;exact h (by simpa using congrArg Array.toList e)
theorem bE {ρ:LE}{x:Str}{v:V}:upd ρ x v x=some v:=by simp[upd]
theorem qG {ρ:LE}{x y:Str}{v:V}(h:y≠x):upd ρ x v y=ρ y:=by simp[upd,h]
theorem aI {ρ:LE}{a b:String}{v:V}(h:decide (S b=S a)=false):upd ρ (S a) v (S b)=ρ (S b):=qG (of_decide_eq_false h)
def Rows (tb:List Row)(K:List Nat)(us:List U):Prop:=K.map (λp=>tb[p]?)=us.map λu=>some (Row.u u)
theorem Rows.nil:Rows tb [] []:=rfl
theorem cW {p:Nat}{K:List Nat}{us:List U}(h:Rows tb (p::K) us):∃u us',us=u::us'∧tb[p]?=some (.u u)∧Rows tb K us':=by
 cases us with
 | nil=>simp[Rows]at h
 | cons u us=>simp[Rows]at h;exact⟨u,us,rfl,h.1,h.2⟩
theorem Rows.cons {p:Nat}{K:List Nat}{u:U}{us:List U}(h:tb[p]?=some (.u u))(h2:Rows tb K us):Rows tb (p::K) (u::us):=by simp[Rows,h];exact h2
theorem Rows.len {K:List Nat}{us:List U}(h:Rows tb K us):K.length=us.length:=by simpa using congrArg List.length h
theorem fZ (h:tb <+: tb')(e:tb[t]?=some r):tb'[t]?=some r:=by
 obtain⟨x,rfl⟩:=h;obtain⟨hn,_⟩:=zG e;rw[List.getElem?_append_left hn];exact e
theorem Rows.pre (hp:tb <+: tb'):∀{K:List Nat} {us:List U},Rows tb K us→Rows tb' K us:=by
 intro ll
 induction ll with
 | nil=>
  intro us h;cases us with | nil=>rfl | cons u us=>simp[Rows]at h
 | cons p K ih=>
  intro us h;obtain⟨u,us',rfl,h1,h2⟩:=cW h;exact .cons (fZ hp h1) (ih h2)
theorem Rows.mem {K:List Nat}{us:List U}(h:Rows tb K us){p:Nat}(hp:p∈K):∃u∈us,tb[p]?=some (.u u):=by
 have:tb[p]?∈K.map (λp=>tb[p]?):=List.mem_map.mpr ⟨p,hp,rfl⟩;rw[h]at this;obtain⟨u,hu,e⟩:=zM this;exact⟨u,hu,e.symm⟩
theorem Rows.mem' {K:List Nat}{us:List U}(h:Rows tb K us){u:U}(hu:u∈us):∃p∈K,tb[p]?=some (.u u):=by
 have:some (Row.u u)∈us.map (λu=>some (Row.u u)):=List.mem_map.mpr ⟨u,hu,rfl⟩;rw[←h]at this;obtain⟨p,hp,e⟩:=zM this;exact⟨p,hp,e⟩
def cV (u:U):Bool:=if u∈[U.any,.unk,.nev,.emp,.err]then false else true
theorem bG (T:TbOk tb){i:Nat}{r:Row}(h:first[i]?=some r):tb[i]?=some r:=fZ T.pre h
theorem gR (T:TbOk tb){i:Nat}{r:Row}(h:first[i]?=some r):tb[t]?=some r↔t=i:=by
 constructor
 ·intro e;exact(List.getElem?_inj (zG e).1 T.nd).mp (e.trans (bG T h).symm)
 ·rintro rfl;exact bG T h
theorem lK (T:TbOk tb){u:U}(h:tb[t]?=some (.u u))(q:u≠.nev):cN tb t=[t]:=by
 have:t≠2:=by
  rintro rfl;have:=(bG T (i:=2) (r:=.u .nev) rfl).symm.trans h;simp at this;exact q this.symm
 exact(if_neg this).trans (congrArg (λo:Option Row=>match o with | some (.un ps)=>ps | _=>[t]) h)
theorem ax5 {γ:Type}{enc:γ→V}{w:M Unit}{f:V→LE→(LE→M V)→M V}(I:List γ→LE→H→Prop)(Q:V→H→Prop)(hw:∀l ρ Y,I l ρ Y→w Y=some ((),Y))
  (step:∀x l ρ Y,I (x::l) ρ Y→(∃ρ' Y',I l ρ' Y'∧∀k,f (enc x) ρ k Y=k ρ' Y')∨∃v Y',Q v Y'∧∀k,f (enc x) ρ k Y=some (v,Y')) :
  ∀l ρ Y,I l ρ Y→(∃ρ' Y',I [] ρ' Y'∧∀k,b9 w f (l.map enc) ρ k Y=k ρ' Y')∨∃v Y',Q v Y'∧∀k,b9 w f (l.map enc) ρ k Y=some (v,Y'):=by
 intro ll
 induction ll with
 | nil=>
  intro ρ Y h;exact .inl ⟨ρ,Y,h,λk=>by show aB w (λ_=>k ρ) Y=_;rw[st (hw _ _ _ h)]⟩
 | cons x l ih=>
  intro ρ Y h;have e:∀k,b9 w f ((x::l).map enc) ρ k Y=f (enc x) ρ (λρ'=>b9 w f (l.map enc) ρ' k) Y:=λk=>by
   show aB w (λ_=>f (enc x) ρ λρ'=>b9 w f (l.map enc) ρ' k) Y=_;rw[st (hw _ _ _ h)]
  rcases step x l ρ Y h with⟨ρ',Y',hI,he⟩ | ⟨v,Y',hQ,he⟩
  ·have:=ih ρ' Y' hI
   simpa only[e,he]using this
  ·exact .inr ⟨v,Y',hQ,λk=>by rw[e,he]⟩
theorem aH8 {γ:Type}{enc:γ→V}{w:M Unit}{f:V→LE→(LE→M V)→M V}(I:List γ→LE→H→Prop)(hw:∀l ρ Y,I l ρ Y→w Y=some ((),Y))
  (step:∀x l ρ Y,I (x::l) ρ Y→∃ρ' Y',I l ρ' Y'∧∀k,f (enc x) ρ k Y=k ρ' Y') (l:List γ) (ρ:LE) (Y:H) (h:I l ρ Y):∃ρ' Y',I [] ρ' Y'∧∀k,b9 w f (l.map enc) ρ k Y=k ρ' Y':=by
 rcases ax5 I (λ_ _=>False) hw (λx l ρ Y h=>.inl (step x l ρ Y h)) l ρ Y h with h | ⟨_,_,q,_⟩
 ·exact h
 ·exact q.elim
theorem yP {γ:Type}{enc:γ→V}{g:γ→V}{c:γ→Bool}{f:V→M (Option V)}{Y:H}:∀(l:List γ),(∀x∈l,f (enc x) Y=some (if c x then some (g x)else none,Y))→bK (ret ()) f (l.map enc) Y=some ((l.filter c).map g,Y)
 | [],_=>rfl
 | x::l,h=>by
  show aB (f (enc x)) (λy=>aB (bK (ret ()) f (l.map enc)) λys=>ret (wZ y ys)) Y=_;rw[st (h x zS),st (yP l λy hy=>h y (zC _ hy))];cases e:c x<;>simp[e,wZ,ret]
theorem qI {g:Nat}{o:O}(h:Y[g]?=some o):Y.set g o=Y:=by
 obtain⟨hn,e⟩:=zG h;rw[←e];exact List.set_getElem_self hn
theorem aC0:∀(ps J:List Nat),(ps.foldl dQ J).length≤J.length+ps.length:=by
 intro ll
 induction ll with
 | nil=>
  intro J;simp
 | cons p ps ih=>
  intro J;have:=ih (dQ J p);have:(dQ J p).length≤J.length+1:=by unfold dQ;split<;>simp
  simp only[List.foldl_cons,List.length_cons];lia
def aX1 (x:Nat):List Nat→List Nat
 | []=>[x]
 | y::r=>if x≤y then x::y::r else y::aX1 x r
theorem aB4 {x y:Nat}{r:List Nat}:aX1 x (y::r)=if x≤y then x::y::r else y::aX1 x r:=rfl
def mB:List Nat→List Nat
 | []=>[]
 | x::r=>aX1 x (mB r)
theorem bl3 (x:Nat):∀l:List Nat,ax3 x (l.map λ(p:Nat)=>(p:Int))=(aX1 x l).map λ(p:Nat)=>(p:Int):=by
 intro ll
 induction ll with
 | nil=>
  exact rfl
 | cons y r ih=>
  simp only[List.map_cons,bl2,aB4];by_cases q:x≤y
  ·rw[if_pos (by lia),if_pos q];rfl
  ·rw[if_neg (by lia),if_neg q,ih];rfl
theorem ae9:∀l:List Nat,nL (l.map λ(p:Nat)=>(p:Int))=(mB l).map λ(p:Nat)=>(p:Int)
 | []=>rfl
 | x::r=>by show ax3 x (nL (r.map λ(p:Nat)=>(p:Int)))=(aX1 x (mB r)).map _;rw[ae9 r,bl3]
theorem aB3 (x:Nat):∀l:List Nat,(aX1 x l).Perm (x::l)
 | []=>List.Perm.refl _
 | y::r=>by
  rw[aB4];split
  ·exact List.Perm.refl _
  ·exact(List.Perm.cons y (aB3 x r)).trans (List.Perm.swap x y r)
theorem fT:∀l:List Nat,(mB l).Perm l
 | []=>List.Perm.refl _
 | x::r=>(aB3 x (mB r)).trans (List.Perm.cons x (fT r))
theorem an4:∀l:List Nat,nH (bQ l)=some (l.map λ(p:Nat)=>(p:Int))
 | []=>rfl
 | x::r=>by
  show(cA (.int x)).bind (λi=>(nH (bQ r)).map (i::·))=_;rw[an4 r];rfl
theorem aU2 {g:Nat}{J:List Nat}(hg:Y[g]?=some (.dict (fW J)))(hl:J.length < 60):jG "sorted" [.ref g] Y=some (.lst (bQ (mB J)),Y):=by
 have e:decide ((fW J).length < 60)=true:=by simp[fW,hl]
 show ac5 (.ref g) Y=_;show aB (rdD g) (λes=>aB (dD (decide (es.length < 60))) λ_=>aB (bL (nH (es.map (·.1)))) λks=>ret (V.lst ((nL ks).map .int))) Y=_;rw[st (af5 hg),e,aP0,an4];show some (V.lst ((nL (J.map λ(p:Nat)=>(p:Int))).map .int),Y)=_;rw[ae9];simp[bQ]
def ar4 (tb:List Row)(J:List Nat)(p:Nat):Bool:=match tb[p]? with | some r=>xH tb J r | none=>false
def cF (tb:List Row)(ps:List Nat):List Nat:=(mB (cK (ps.foldl dQ []))).filter (ar4 tb (cK (ps.foldl dQ [])))
theorem am2 {J:List Nat}{x y:Nat}:y∈dQ J x↔y∈J∨y=x:=by
 unfold dQ;split
 ·rename_i h;exact⟨.inl,λh'=>h'.elim id λe=>e▸h⟩
 ·simp
theorem yD:∀{ps J:List Nat} {y:Nat},y∈ps.foldl dQ J↔y∈J∨y∈ps
 | [],J,y=>by simp
 | p::ps,J,y=>by
  rw[List.foldl_cons,yD,am2];simp[or_assoc]
theorem yC {J:List Nat}{y:Nat}:y∈cK J↔y∈J∨(((8∈J∨14∈J)∧(9∈J∨15∈J))∧(y=8∨y=9)):=by
 unfold cK;split
 ·rename_i h;rw[am2,am2];simp[h,or_assoc]
 ·rename_i h;simp[h]
inductive Made (tb:List Row) (K:List Nat) (t:Nat):Prop where
 | zero (h:K=[]) (e:t=2)
 | one (h:K=[t])
 | more (h:2≤K.length) (e:tb[t]?=some (.un K))
theorem bF9 {J:List Nat}{g:Nat}(hg:Y[g]?=some (.dict (fW J)))(h0:0∉J)(h1:1∉J)(h13:13∉J):aD (n+1) (.fn 71 0) [.ref g] Y=some (.int (-1),Y):=by
 rw[aM0];unfold aM1;have e0:aK .In (.int 0) (.ref g) Y=some (false,Y):=by rw[show(0:Int)=((0:Nat):Int)from rfl,uY hg,decide_eq_false h0]
 have e1:aK .In (.int 1) (.ref g) Y=some (false,Y):=by rw[show(1:Int)=((1:Nat):Int)from rfl,uY hg,decide_eq_false h1]
 have e13:aK .In (.int 13) (.ref g) Y=some (false,Y):=by rw[show(13:Int)=((13:Nat):Int)from rfl,uY hg,decide_eq_false h13]
 skip
 obtain⟨ρ',Y',⟨hs,hρ⟩,e⟩:=aH8 (enc:=λv=>v) (w:=ret ()) (f:=qU (aD n))
   (λl ρ Y'=>Y'=Y∧ρ (S "got")=some (.ref g)∧∀x∈l,aK .In x (.ref g) Y=some (false,Y)) (λ_ _ _ _=>rfl) (λx l ρ Y' h=>by
    obtain⟨rfl,hρ,hx⟩:=h;refine⟨upd ρ (S "t") x,_,⟨rfl,by rw[aI (by nofun)];exact hρ,λy hy=>hx y (zC _ hy)⟩,λk=>?_⟩;unfold qU;rw[hρ,aF,st (hx x zS)];rfl)
   [.int 0,.int 13,.int 1] (upd Mine.Internal.Pl.e0 (S "got") (.ref g)) Y ⟨rfl,bE,λx hx=>by simp at hx;rcases hx with rfl | rfl | rfl<;>assumption⟩
 subst hs;exact e _
theorem n8 (xs:List V):bU (.lst xs) Y=some (xs,Y):=rfl
theorem eQ (xs:List V):bU (.tup xs) Y=some (xs,Y):=rfl
theorem r6 (xs:List V):c8 (.lst xs) Y=some (xs,Y):=rfl
theorem bb2 (xs:List V):c8 (.tup xs) Y=some (xs,Y):=rfl
theorem kW (xs:List V):jG "len" [.lst xs] Y=some (.int xs.length,Y):=by
 show one (λx=>aB (c8 x) λxs=>ret (.int xs.length)) [.lst xs] Y=_;rfl
theorem gt_int {a b:Int}:aK .Gt (.int a) (.int b) Y=some (decide (a > b),Y):=rfl
theorem ge_int {a b:Int}:aK .GtE (.int a) (.int b) Y=some (decide (a ≥ b),Y):=rfl
theorem pJ {a b:Int}:aK .Lt (.int a) (.int b) Y=some (decide (a < b),Y):=rfl
theorem ay2 (xs:List V):aS (.lst xs) Y=some (!xs.isEmpty,Y):=rfl
theorem bJ (b:Bool):aS (.bool b) Y=some (b,Y):=rfl
theorem bg8 (xs:List V):tyV "tuple" [.lst xs] Y=some (.tup xs,Y):=rfl
abbrev UnI (Y1:H)(tb:List Row)(g:Nat)(ps l:List Nat)(ρ:LE)(Y2:H)(J:List Nat)(us':List U):Prop:=Y2=Y1.set g (.dict (fW J))∧Rows tb l us'∧(∀u∈us',cV u=true)∧l.foldl dQ J=ps.foldl dQ []∧ρ (S "tab")=some (.ref 0)∧ρ (S "got")=some (.ref g)∧J.length+l.length≤20
theorem bf3 (n:Nat){ps:List Nat}{us:List U}(T:TabAt Y tb)(hr:Rows tb ps us)(hu:∀u∈us,cV u=true)(hl:ps.length≤20)(hn:tb.length < 90000) :
  ∃t tb' Y',aD (n+3) (.fn 72 0) [.ref 0,.lst (bQ ps)] Y=some (.int (t:Nat),Y')∧Tab 1 Y tb Y' tb'∧Made tb' (cF tb ps) t∧((2≤(cF tb ps).length→.un (cF tb ps)∈tb)→tb'=tb):=by
 rw[aV2];unfold bc5;have fa:Fr No Y (Y++[.dict []]):=Fr.app;have T1:TabAt (Y++[.dict []]) tb:=T.fr fa id id id;have g0:=aG5 T.h0;have g1:=aG5 T.h1;have g2:=aG5 T.h2;have hg1:(Y++[.dict []])[Y.length]?=some (.dict (fW [])):=k9;generalize hG:Y.length=g at *;generalize hS:Y++[O.dict []]=Y1 at *;have noset:∀J,TabAt (Y1.set g (.dict (fW J))) tb:=λJ=>T1.fr (P:=λm=>m=g) (Fr.set rfl) (λe=>g0 e) (λe=>g1 e) λe=>g2 e;rw[st gS,hS,hG,st (n8 _)];obtain⟨ρ',Y2,⟨J,us',e1,_,_,e2,hρ,hρ2,_⟩,e⟩:=aH8 (enc:=λ(p:Nat)=>V.int p) (w:=ret ()) (f:=o6 (aD (n+2)))
  (λl ρ Y2=>∃J us',UnI Y1 tb g ps l ρ Y2 J us')
  (λ_ _ _ _=>rfl) (λp l ρ Y2 h=>by
   obtain⟨J,us',rfl,hr,hu,hf,hρ,hρ2,hJ⟩:=h;obtain⟨u,us',rfl,hp,hr⟩:=cW hr;have hn:u≠.nev:=by rintro rfl;exact absurd (hu _ zS) (by decide)
   have hlen:(dQ J p).length≤J.length+1:=by unfold dQ;split<;>simp
   refine⟨upd (upd ρ (S "t") (.int p)) (S "part") (.int p),Y1.set g (.dict (fW (dQ J p))),⟨dQ J p,us',rfl,hr,λu h=>hu u (zC _ h),hf,?_,?_,?_⟩,λk=>?_⟩
   ·rw[aI (by nofun),aI (by nofun)];exact hρ
   ·rw[aI (by nofun),aI (by nofun)];exact hρ2
   ·simp at hJ;lia
   ·unfold o6;rw[hρ,aF,st (noset J).frz,st (aH _),st (iY (n+1) (noset J) hp),lK T.ok hp hn,st (eQ _)];show aB (ret ()) _ _=_;unfold ag7;rw[cM,aI (by nofun),hρ2,aF,st (gL (cS hg1) (yK _ _) (by simp[fW];simp at hJ;lia)),vI,List.set_set];rfl) ps (upd (upd (upd e0 (S "tab") (.ref 0)) (S "parts") (.lst (bQ ps))) (S "got") (.ref g)) Y1
   ⟨[],us,(qI hg1).symm,hr,hu,rfl,by rw[aI (by nofun),aI (by nofun),bE],bE,by simpa using hl⟩
 rw[show ∀k,b9 (still (bQ ps) (aP (.lst (bQ ps)))) (o6 (aD (n+2))) (bQ ps) _ k Y1=k ρ' Y2 from e];unfold ag6;clear e;subst e1;simp only[List.foldl_nil]at e2;have memJ:∀{y},y∈J↔y∈ps:=by intro y;rw[e2,yD];simp
 have hatom:∀y∈J,∃u,tb[y]?=some (.u u)∧cV u=true:=λy hy=>by
  obtain⟨u,hu',e⟩:=hr.mem (memJ.mp hy);exact⟨u,e,hu u hu'⟩
 have ntop:∀(i:Nat) (x:U),first[i]?=some (.u x)→cV x=false→i∉J:=λi x h q hi=>by
  obtain⟨u,e,hu'⟩:=hatom i hi;have:=(bG T.ok h).symm.trans e;simp at this;subst this;rw[q]at hu';cases hu'
 have hJl:J.length≤20:=by rw[e2];have:=aC0 ps [];simp at this;lia
 have hg2:(Y1.set g (.dict (fW J)))[g]?=some (.dict (fW J)):=cS hg1;rw[hρ2,aF,st (wT hg2),st (bF9 hg2 (ntop 0 .any rfl rfl) (ntop 1 .unk rfl rfl) (ntop 13 .err rfl rfl)),st ge_int];rw[if_neg (by decide)];unfold ag3;rw[hρ2,aF,st (wT hg2),st (bU8 (n+1) hg2 (by lia)),List.set_set,aF];have T2:=noset (cK J);have hg3:(Y1.set g (.dict (fW (cK J))))[g]?=some (.dict (fW (cK J))):=cS hg1;have hK:cF tb ps=(mB (cK J)).filter (ar4 tb (cK J)):=by rw[e2];rfl
 generalize hS3:Y1.set g (.dict (fW (cK J)))=Y3 at *;have hjl:(cK J).length≤J.length+2:=by
  unfold cK dQ;split<;>(repeat' split)<;>simp<;>lia
 have fr3:Fr No Y Y3:=by
  have:Fr (λm=>m=g) Y1 Y3:=by rw[←hS3];exact Fr.set rfl
  refine⟨zL fa.1 this.1,λm o h _=>this.2 m o (fa.2 m o h id) ?_⟩;rintro rfl;exact absurd hG (aG5 h).symm
 rw[st (aU2 hg3 (by lia)),st (r6 _)];have row3:∀y∈cK J,∃u,tb[y]?=some (.u u)∧u≠.nev:=λy hy=>by
  rcases yC.mp hy with h | ⟨_,rfl | rfl⟩
  ·obtain⟨u,e,hu'⟩:=hatom y h;exact⟨u,e,by rintro rfl;cases hu'⟩
  ·exact⟨.ff,bG T.ok rfl,by decide⟩
  ·exact⟨.tt,bG T.ok rfl,by decide⟩
 have ecomp:=yP (enc:=λ(p:Nat)=>V.int p) (g:=λ(p:Nat)=>V.int p) (c:=ar4 tb (cK J)) (Y:=Y3) (f:=uQ (aD (n+2)) ρ') (mB (cK J)) (λx hx=>by
   obtain⟨u,hx',_⟩:=row3 x ((fT _).mem_iff.mp hx);have e70:=bK1 n T2 hg3 hx';unfold uQ;rw[hρ,hρ2,aF,aC,st T2.frz,aF,aC,st (wT hg3),aC,st (aH _),aC,st e70,st (bJ _)];simp only[ar4,hx'];cases xH tb (cK J) (.u u)<;>rfl)
 change bK _ _ (bQ _) _=some (bQ _,_)at ecomp;rw[st (show bK (still (bQ (mB (cK J))) (aP (.lst (bQ (mB (cK J)))))) _ (bQ (mB (cK J))) _=_ from ecomp),←hK];show ∃t tb' Y',aB (aB (aS (.lst (bQ (cF tb ps)))) λb37=>ret !b37) _ Y3=_∧_;have memK:∀y∈cF tb ps,y∈cK J:=λy hy=>by
  rw[hK]at hy;exact(fT _).mem_iff.mp (List.mem_filter.mp hy).1
 have lenK:(cF tb ps).length≤22:=by
  rw[hK];have:=List.length_filter_le (ar4 tb (cK J)) (mB (cK J));have:=(fT (cK J)).length_eq;lia
 generalize cF tb ps=K at *;have tab0:Tab 1 Y tb Y3 tb:=⟨T2,List.prefix_rfl,by lia,fr3.of⟩;rw[st (show(aB (aS (.lst (bQ K))) λb37=>ret !b37) Y3=some (K.isEmpty,Y3)from by rw[st (ay2 _),bs1];cases K<;>rfl)];rcases K with _ | ⟨p,K⟩
 ·exact⟨2,tb,Y3,rfl,tab0,.zero rfl rfl,λ_=>rfl⟩
 ·rw[if_neg (by simp)];unfold ag4;rw[st (show(aB (jG "len" [(.lst (bQ (p::K)))]) λv39=>aK .Eq v39 (.int 1)) Y3=some (K.isEmpty,Y3)from by
   rw[st (kW _),aW];cases K<;>simp[bQ];lia)]
  rcases K with _ | ⟨p2,K⟩
  ·exact⟨p,tb,Y3,rfl,tab0,.one rfl,λ_=>rfl⟩
  ·rw[if_neg (by simp),st (show(aB (jG "len" [(.lst (bQ (p::p2::K)))]) λv39=>aK .Gt v39 (.int 400)) Y3=some (false,Y3)from by
    rw[st (kW _),gt_int];have:¬((bQ (p::p2::K)).length:Int) > 400:=by simp[bQ];simp at lenK;lia
    simp[this]),if_neg (by simp)];unfold ag5;rw[hρ,aF,st T2.put,st (bg8 _),st (iU _),eF,st (iU _)]
   obtain⟨t,tb',Y',e,a,b,c⟩:=bz8 (n+1) T2 (.un (p::p2::K)) hn;have e':bD (aD (n+2)) (.py 58 3) (S "put") (.ref 0) [.tup [.int 6,.tup (bQ (p::p2::K))]] Y3=some (.int t,Y'):=e;rw[st e',aH];exact⟨t,tb',Y',rfl,⟨a.at',a.pre,a.len,fr3.of.trans a.fr⟩,.more (by simp) b,λh=>(c (h (by simp))).1⟩
end
section
variable {Y Y':H}{tb tb':List Row}{t n:Nat}{r:Row}{call:CT}
def wU (u:U):Option U:=if u∈[U.n1,.n1f,.n2,.n2f,.n7,.n7f,.ea,.eaf,.eb,.ebf,.gx,.gxf]then some .num else if u∈[U.sa,.saf,.sb,.sbf,.tp,.tpf,.tq,.tqf]then some .str else none
def wQ (A:List U)(u:U):Prop:=u∈A∨(((.ff∈A∨.fff∈A)∧(.tt∈A∨.ftt∈A))∧(u=.ff∨u=.tt))
def am9 (A:List U)(u:U):Prop:=wQ A u∧¬(iV u=true∧wQ A (aL u))∧∀w,wU u=some w→w∉A
theorem bb3:∀{K:List Nat},(∀p∈K,∃u,tb[p]?=some (.u u))→∃ks,Rows tb K ks
 | [],_=>⟨[],rfl⟩
 | p::K,h=>by
  obtain⟨u,hu⟩:=h p zS;obtain⟨ks,hk⟩:=bb3 (K:=K) λp hp=>h p (zC _ hp);exact⟨u::ks,.cons hu hk⟩
theorem Rows.iff (T:TbOk tb){K:List Nat}{us:List U}(h:Rows tb K us){p:Nat}{u:U}(e:tb[p]?=some (.u u)):p∈K↔u∈us:=by
 constructor
 ·intro hp;obtain⟨v,hv,e2⟩:=h.mem hp;have:u=v:=by simpa using e.symm.trans e2
  exact this▸hv
 ·intro hu;obtain⟨q,hq,e2⟩:=h.mem' hu;have:p=q:=(List.getElem?_inj (zG e).1 T.nd).mp (e.trans e2.symm);exact this▸hq
theorem Rows.uniq (T:TbOk tb):∀{K R:List Nat} {us:List U},Rows tb K us→Rows tb R us→K=R:=by
 intro K
 induction K with
 | nil=>intro R us h h2;exact(List.length_eq_zero_iff.mp (h2.len.trans h.len.symm)).symm
 | cons p K ih=>
  intro R us h h2;cases R with
  | nil=>exact List.length_eq_zero_iff.mp (h.len.trans h2.len.symm)
  | cons q R=>
  obtain⟨u,us',rfl,h1,h3⟩:=cW h;obtain⟨u',us'',e,h4,h5⟩:=cW h2;cases e;rw[ih h3 h5,(List.getElem?_inj (zG h1).1 T.nd).mp (h1.trans h4.symm)]
theorem uU {J:List Nat}(h:J.Nodup)(x:Nat):(dQ J x).Nodup:=by
 unfold dQ;split
 ·exact h
 ·rename_i q;rw[List.nodup_append];exact⟨h,by simp,λa ha b hb=>by simp at hb;subst hb;intro e;exact q (e▸ha)⟩
theorem zI:∀(ps J:List Nat),J.Nodup→(ps.foldl dQ J).Nodup
 | [],J,h=>h
 | p::ps,J,h=>zI ps _ (uU h p)
theorem aM9 {J:List Nat}(h:J.Nodup):(cK J).Nodup:=by
 unfold cK;split
 ·exact uU (uU h 8) 9
 ·exact h
theorem oU (tb:List Row)(ps:List Nat):(cF tb ps).Nodup:=by
 unfold cF;exact List.Nodup.sublist List.filter_sublist ((fT _).nodup_iff.mpr (aM9 (zI ps [] List.nodup_nil)))
theorem am3 {ps:List Nat}{y:Nat}:y∈ps.foldl dQ []↔y∈ps:=by rw[yD];simp
theorem oF (T:TbOk tb){ps:List Nat}{us:List U}(hr:Rows tb ps us){p:Nat}{u:U}(e:tb[p]?=some (.u u)):p∈cK (ps.foldl dQ [])↔wQ us u:=by
 rw[yC];unfold wQ;have f:∀(i:Nat) (x:U),first[i]?=some (.u x)→(i∈ps.foldl dQ []↔x∈us):=λi x h=>by rw[am3];exact hr.iff T (bG T h)
 have g:∀(i:Nat) (x:U),first[i]?=some (.u x)→(p=i↔u=x):=λi x h=>by
  rw[←gR T h,e];simp
 rw[f 8 .ff rfl,f 14 .fff rfl,f 9 .tt rfl,f 15 .ftt rfl,g 8 .ff rfl,g 9 .tt rfl,am3,hr.iff T e]
theorem aO2 (T:TbOk tb){ps:List Nat}{us:List U}(hr:Rows tb ps us){p:Nat}(h:p∈cK (ps.foldl dQ [])):∃u,tb[p]?=some (.u u):=by
 rcases yC.mp h with h | ⟨_,rfl | rfl⟩
 ·obtain⟨u,_,e⟩:=hr.mem (am3.mp h);exact⟨u,e⟩
 ·exact⟨.ff,bG T rfl⟩
 ·exact⟨.tt,bG T rfl⟩
theorem ac3 (a:U):(wU a=none∧d6 a=-1)∨(wU a=some .str∧d6 a=6)∨(wU a=some .num∧d6 a=7):=zD (bm2 (f:=λa=>decide ((wU a=none∧d6 a=-1)∨(wU a=some .str∧d6 a=6)∨(wU a=some .num∧d6 a=7))) (by nofun) a)
theorem bp3 (T:TbOk tb){ps:List Nat}{us:List U}(hr:Rows tb ps us)(u:U):inJ (d6 u) (cK (ps.foldl dQ []))=true↔∃w,wU u=some w∧w∈us:=by
 have f:∀(i:Nat) (x:U),first[i]?=some (.u x)→x≠.ff→x≠.tt→(inJ (i:Int) (cK (ps.foldl dQ []))=true↔x∈us):=λi x h a b=>by
  rw[ad0,decide_eq_true_iff,oF T hr (bG T h)];unfold wQ;simp[a,b]
 have f6:inJ 6 (cK (ps.foldl dQ []))=true↔U.str∈us:=f 6 .str rfl (by decide) (by decide);have f7:inJ 7 (cK (ps.foldl dQ []))=true↔U.num∈us:=f 7 .num rfl (by decide) (by decide);have f0:inJ (-1) (cK (ps.foldl dQ []))=true↔False:=by
  simp only[inJ,List.any_eq_true,decide_eq_true_eq,iff_false];rintro⟨q,_,e⟩;lia
 rcases ac3 u with⟨h1,h2⟩ | ⟨h1,h2⟩ | ⟨h1,h2⟩
 ·rw[h1,h2,f0];exact⟨False.elim,λ⟨_,e,_⟩=>nomatch e⟩
 ·rw[h1,h2,f6];exact⟨λh=>⟨_,rfl,h⟩,λ⟨_,e,h⟩=>by cases e;exact h⟩
 ·rw[h1,h2,f7];exact⟨λh=>⟨_,rfl,h⟩,λ⟨_,e,h⟩=>by cases e;exact h⟩
theorem rZ (T:TbOk tb){ps:List Nat}{us:List U}(hr:Rows tb ps us)(u:U):xH tb (cK (ps.foldl dQ [])) (Row.u u)=true↔¬(iV u=true∧wQ us (aL u))∧∀w,wU u=some w→w∉us:=by
 unfold xH;have h1:((cK (ps.foldl dQ [])).any λq=>tb[q]?==some (mY (.u u)))=true↔wQ us (aL u):=by
  simp only[List.any_eq_true,beq_iff_eq];constructor
  ·rintro⟨q,hq,e⟩;exact(oF T hr e).mp hq
  ·intro h;have:∃q:Nat,tb[q]?=some (Row.u (aL u)):=by
    rcases h with h | ⟨_,h | h⟩
    ·obtain⟨q,_,e⟩:=hr.mem' h;exact⟨q,e⟩
    ·rw[h];exact⟨8,bG T rfl⟩
    ·rw[h];exact⟨9,bG T rfl⟩
   obtain⟨q,e⟩:=this;exact⟨q,(oF T hr e).mpr h,e⟩
 have h2:=bp3 T hr u;simp only[Bool.and_eq_true,Bool.not_eq_true',←Bool.not_eq_true,kF,aT4,h1,h2];constructor
 ·rintro⟨a,b⟩;exact⟨a,λw hw hm=>b ⟨w,hw,hm⟩⟩
 ·rintro⟨a,b⟩;exact⟨a,λ⟨w,hw,hm⟩=>b w hw hm⟩
theorem yU (T:TbOk tb){ps:List Nat}{us:List U}(hr:Rows tb ps us):∃ks,Rows tb (cF tb ps) ks∧∀u,u∈ks↔am9 us u:=by
 have mk:∀p,p∈cF tb ps↔p∈cK (ps.foldl dQ [])∧ar4 tb (cK (ps.foldl dQ [])) p=true:=λp=>by
  unfold cF;rw[List.mem_filter,(fT _).mem_iff]
 obtain⟨ks,hk⟩:=bb3 (tb:=tb) (K:=cF tb ps) λp hp=>aO2 T hr ((mk p).mp hp).1;refine⟨ks,hk,λu=>⟨λhu=>?_,λhu=>?_⟩⟩
 ·obtain⟨p,hp,e⟩:=hk.mem' hu;obtain⟨a,b⟩:=(mk p).mp hp;simp only[ar4,e]at b;exact⟨(oF T hr e).mp a,(rZ T hr u).mp b⟩
 ·have:∃p:Nat,tb[p]?=some (Row.u u):=by
   rcases hu.1 with h | ⟨_,h | h⟩
   ·obtain⟨q,_,e⟩:=hr.mem' h;exact⟨q,e⟩
   ·rw[h];exact⟨8,bG T rfl⟩
   ·rw[h];exact⟨9,bG T rfl⟩
  obtain⟨p,e⟩:=this;refine(hk.iff T e).mp ((mk p).mpr ⟨(oF T hr e).mpr hu.1,?_⟩);simp only[ar4,e];exact(rZ T hr u).mpr hu.2
theorem ad9 (T:TbOk tb)(T':TbOk tb')(hp:tb <+: tb'){ps:List Nat}{us:List U}(hr:Rows tb ps us):cF tb' ps=cF tb ps:=by
 unfold cF;refine List.filter_congr λp h=>?_;have hj:=(fT _).mem_iff.mp h;obtain⟨u,e⟩:=aO2 T hr hj;simp only[ar4,e,fZ hp e];rw[Bool.eq_iff_iff,rZ T hr,rZ T' (hr.pre hp)]
structure Term (tb:List Row) (t:Nat) (K:List Nat) (us:List U):Prop where
 rows:Rows tb K us
 atom:∀u∈us,cV u=true
 made:Made tb K t
 ne:K≠[]
 wh:∀u∈us,∀w,wU u=some w→w∉us
 inj:∀u∈us,∀v∈us,aL u=aL v→u=v
 nd:K.Nodup
 five:K.length≤10
theorem Term.at_ {K:List Nat}{us:List U}(h:Term tb t K us):(∃u,us=[u]∧K=[t]∧tb[t]?=some (.u u)∧cV u=true)∨(tb[t]?=some (.un K)∧2≤K.length):=by
 rcases h.made with⟨e,_⟩ | e | ⟨e,e2⟩
 ·exact absurd e h.ne
 ·subst e;obtain⟨u,us',rfl,h1,h2⟩:=cW h.rows;cases us' with
  | nil=>exact .inl ⟨u,rfl,rfl,h1,h.atom u zS⟩
  | cons _ _=>simp[Rows]at h2
 ·exact .inr ⟨e2,e⟩
theorem Term.parts {K:List Nat}{us:List U}(T:TbOk tb)(h:Term tb t K us):cN tb t=K:=by
 rcases h.at_ with⟨u,rfl,rfl,h1,h2⟩ | ⟨h1,h2⟩
 ·exact lK T h1 (by rintro rfl;cases h2)
 ·have:t≠2:=by
   rintro rfl;have:=(bG T (i:=2) (r:=.u .nev) rfl).symm.trans h1;simp at this
  exact(if_neg this).trans (congrArg (λo:Option Row=>match o with | some (.un ps)=>ps | _=>[t]) h1)
theorem Made.pre {K:List Nat}(hp:tb <+: tb')(h:Made tb K t):Made tb' K t:=by
 rcases h with⟨a,b⟩ | a | ⟨a,b⟩
 ·exact .zero a b
 ·exact .one a
 ·exact .more a (fZ hp b)
theorem Term.pre {K:List Nat}{us:List U}(hp:tb <+: tb')(h:Term tb t K us):Term tb' t K us:=
 ⟨h.rows.pre hp,h.atom,h.made.pre hp,h.ne,h.wh,h.inj,h.nd,h.five⟩
theorem oP {u:U}(h:cV u=true):cV (aL u)=true:=by apply iS (p:=cV) u h;ext
theorem vF (u:U):aL (aL u)=aL u:=by apply gF u;ext
theorem aB8 (u:U):iV (aL u)=false:=by apply gF u;ext
theorem ba8 (u:U):wU (aL u)=wU u:=by apply gF u;ext
theorem bM2 {u w:U}(h:wU u=some w):aL w=w∧wU w=none∧iV w=false∧cV w=true∧w≠.ff∧w≠.tt∧w≠.fff∧w≠.ftt:=by
 have:=bm2 (f:=λu=>match wU u with | some w=>decide (aL w=w∧wU w=none∧iV w=false∧cV w=true∧w≠.ff∧w≠.tt∧w≠.fff∧w≠.ftt) | none=>true) (by nofun) u;rw[h]at this;exact zD this
theorem aL3 {u v w:U}(h:wU u=some w)(e:aL v=w):v=w:=by
 have:=bm2 (bm2 (f:=λu=>qC.all λv=>match wU u with | some w=>decide (aL v=w→v=w) | none=>true) (by nofun) u) v;rw[h]at this;exact zD this e
theorem bU3 (n:Nat):∀{K:List Nat} {us:List U} {tb:List Row} {Y:H},TabAt Y tb→Rows tb K us→tb.length+K.length < 90000→
  ∃R tb' Y',bK (ret ()) (vY (aD (n+2)) (.ref 0)) (bQ K) Y=some (bQ R,Y')∧Tab K.length Y tb Y' tb'∧Rows tb' R (us.map aL)∧
   ((∀u∈us,Row.u (aL u)∈tb)→tb'=tb):=by
 intro ll
 induction ll with
 | nil=>
  intro us tb Y T hr hl;cases us with
  | nil=>exact⟨[],tb,Y,rfl,Tab.refl T,rfl,λ_=>rfl⟩
  | cons _ _=>simp[Rows]at hr
 | cons p K ih=>
  intro us tb Y T hr hl;obtain⟨u,us,rfl,hp,hr⟩:=cW hr;simp only[List.length_cons]at hl;obtain⟨t',tb1,Y1,e1,a1,b1,c1⟩:=jS n T hp (by lia);obtain⟨R,tb2,Y2,e2,a2,b2,c2⟩:=ih a1.at' (hr.pre a1.pre) (by have:=a1.len;lia);refine⟨t'::R,tb2,Y2,?_,(a1.trans a2).mono (by simp;lia),?_,λh=>?_⟩
  ·show aB (aB (aA (.ref 0)) λf11=>aB (aA (.int p)) λf12=>aB (aD (n+2) (.fn 75 0) [f11,f12]) λv13=>ret (some v13)) (λy=>aB (bK (ret ()) _ (bQ K)) λys=>ret (wZ y ys)) Y=_;rw[aC,st T.frz,aC,st (aH _),aC,st e1,cM,st e2];rfl
  ·exact Rows.cons (a2.at_ b1) b2
  ·have h1:=(c1 (h u zS)).1
   subst h1;exact c2 λu hu=>h u (zC _ hu)
theorem bv1 {us:List U}(wh:∀u∈us,∀w,wU u=some w→w∉us)(u:U):am9 (us.map aL) u↔u∈us.map aL:=by
 have jm:∀v,wQ (us.map aL) v→v∈us.map aL:=λv h=>by
  rcases h with h | ⟨⟨a,b⟩,c⟩
  ·exact h
  ·have no:∀x,iV x=true→x∉us.map aL:=λx hx hm=>by
    obtain⟨y,_,e⟩:=zM hm;rw[←e,aB8]at hx;cases hx
   rcases c with rfl | rfl
   ·exact a.elim id λh=>absurd h (no _ rfl)
   ·exact b.elim id λh=>absurd h (no _ rfl)
 constructor
 ·intro h;exact jm u h.1
 ·intro h;obtain⟨x,hx,e⟩:=zM h;refine⟨.inl h,λc=>?_,λw hw hm=>?_⟩
  ·rw[←e,aB8]at c;cases c.1
  ·obtain⟨y,hy,e2⟩:=zM hm;rw[←e,ba8]at hw;exact wh x hx w hw (aL3 hw e2▸hy)
theorem aD1 (n:Nat){K:List Nat}{us:List U}(T:TabAt Y tb)(h:Term tb t K us)(hn:tb.length < 80000) :
  ∃t' K' ks R tb' Y',aD (n+4) (.fn 76 0) [.ref 0,.int t] Y=some (.int (t':Nat),Y')∧Tab (K.length+1) Y tb Y' tb'∧Term tb' t' K' ks∧(∀u,u∈ks↔u∈us.map aL)∧
   Rows tb' R (us.map aL)∧(2≤K.length→K'=cF tb' R)∧
   (∀R0,Rows tb R0 (us.map aL)→(2≤K.length→2≤(cF tb R0).length→.un (cF tb R0)∈tb)→tb'=tb):=by
 rw[vZ];unfold xS;have hf:=h.five;rcases h.at_ with⟨u,rfl,rfl,h1,h2⟩ | ⟨h1,h2⟩
 ·rw[aC,st T.frz,aC,st (aH _),aC,st (aZ7 _ T h1),st aW,if_neg (bM5 u),st T.frz,st (aH _)];obtain⟨t',tb',Y',e,a,b,c⟩:=jS (n+1) T h1 (by lia);rw[st e,aH];refine⟨t',[t'],[aL u],[t'],tb',Y',rfl,a.mono (by simp),⟨.cons b rfl,λv hv=>?_,.one rfl,by simp,λv hv w hw hm=>?_,λv hv v' hv' _=>?_,by simp,by simp⟩,by simp,.cons b rfl,λh=>by simp at h,λR0 hR _=>?_⟩
  ·simp at hv;subst hv;exact oP h2
  ·simp at hv hm;subst hv;have:=bM2 hw;rw[hm,ba8]at this;rw[ba8]at hw;rw[this.2.1]at hw;cases hw
  ·simp at hv hv';rw[hv,hv']
  ·obtain⟨q,_,e⟩:=hR.mem' (u:=aL u) (by simp);exact(c (zE e)).1
 ·rw[aC,st T.frz,aC,st (aH _),aC,st (aZ7 _ T h1),st aW,if_pos (by rfl)];unfold vX;rw[st T.frz,st T.frz,st (aH _),st (iY _ T h1),h.parts T.ok,st (bb2 _)];obtain⟨R,tb1,Y1,e1,a1,b1,c1⟩:=bU3 (n+1) T h.rows (by lia);rw[st (show bK (still (bQ K) (aP (.tup (bQ K)))) _ (bQ K) Y=_ from e1)];have hRl:R.length=K.length:=by rw[b1.len,h.rows.len];simp
  have hat:∀v∈us.map aL,cV v=true:=λv hv=>by
   obtain⟨x,hx,rfl⟩:=zM hv;exact oP (h.atom x hx)
  obtain⟨t',tb2,Y2,e2,a2,m2,c2⟩:=bf3 n a1.at' b1 hat (by lia) (by have:=a1.len;lia);rw[st e2,aH];have ku:cF tb2 R=cF tb1 R:=ad9 a1.at'.ok a2.at'.ok a2.pre b1;obtain⟨ks,hk,hks⟩:=yU a1.at'.ok b1;have hks':∀u,u∈ks↔u∈us.map aL:=λu=>by rw[hks,bv1 h.wh]
  refine⟨t',cF tb1 R,ks,R,tb2,Y2,rfl,(a1.trans a2),⟨hk.pre a2.pre,λv hv=>hat v ((hks' v).mp hv),m2,?_,λv hv w hw hm=>?_,λv hv v' hv' e=>?_,oU _ _,?_⟩,hks',b1.pre a2.pre,λ_=>ku.symm,λR0 hR h3=>?_⟩
  ·intro e;have:K≠[]:=h.ne;cases us with
   | nil=>have:=h.rows.len;simp at this;exact h.ne this
   | cons x us=>
    have:aL x∈ks:=(hks' _).mpr (by simp);rw[e]at hk;cases ks with
    | nil=>cases this
    | cons _ _=>simp[Rows]at hk
  ·obtain⟨x,hx,rfl⟩:=zM ((hks' v).mp hv);obtain⟨y,hy,e2⟩:=zM ((hks' w).mp hm);rw[ba8]at hw;exact h.wh x hx w hw (aL3 hw e2▸hy)
  ·obtain⟨x,hx,rfl⟩:=zM ((hks' v).mp hv);obtain⟨y,hy,rfl⟩:=zM ((hks' v').mp hv');rw[vF,vF]at e;exact e
  ·have:(cF tb1 R).length≤R.length:=by
    have hsub:∀p∈cF tb1 R,p∈R:=λp hp=>by
     obtain⟨v,hv,e⟩:=hk.mem hp;exact(b1.iff a1.at'.ok e).mpr ((hks' v).mp hv)
    exact List.Nodup.length_le_of_subset (oU tb1 R) hsub
   lia
  ·have e3:∀u∈us,Row.u (aL u)∈tb:=λu hu=>by
    obtain⟨q,_,e⟩:=hR.mem' (List.mem_map.mpr ⟨u,hu,rfl⟩);exact zE e
   have:=c1 e3;subst this;have hRR:=hR.uniq T.ok b1;subst hRR;exact c2 (h3 h2)
end
section
variable {Y Y':H}{tb tb':List Row}{t n:Nat}{r:Row}{call:CT}
theorem oX {m m':M Bool}{p q:Bool}(h:m Y=some (p,Y))(h':p=false→m' Y=some (q,Y)):aB m (λb=>bV .Or b m' (ret b)) Y=some (p||q,Y):=by
 rw[st h];cases p
 ·rw[gM,h' rfl];rfl
 ·rfl
theorem mA {m m':M Bool}{p q:Bool}(h:m Y=some (p,Y))(h':p=true→m' Y=some (q,Y)):aB m (λb=>bV .And b m' (ret b)) Y=some (p&&q,Y):=by
 rw[st h];cases p
 ·rfl
 ·rw[dA,h' rfl];rfl
theorem l9 {m:M Bool}{p:Bool}(h:m Y=some (p,Y)):aB m (λb=>bV .Or b (ret false) (ret b)) Y=some (p,Y):=by
 rw[st h];cases p<;>rfl
theorem j1 {m:M Bool}{p:Bool}(h:m Y=some (p,Y)):aB m (λb=>bV .And b (ret true) (ret b)) Y=some (p,Y):=by
 rw[st h];cases p<;>rfl
theorem aK2 {m:M Bool}{p:Bool}(h:m Y=some (p,Y)):aB m (λb=>ret !b) Y=some (!p,Y):=by rw[st h];rfl
theorem rR (k:Nat):∀js:List Int,fM k (js.map V.int)=true
 | []=>by cases k<;>rfl
 | p::ps=>by
  show(dO k (.int p)&&fM k (ps.map V.int))=true;rw[rR k ps];cases k<;>rfl
theorem bB8 (i:Int):∀js:List Int,((js.map V.int).any λy=>PyData.eqv (pd y) (pd (.int i)))=decide (i∈js):=by
 intro ll
 induction ll with
 | nil=>
  exact rfl
 | cons j js ih=>
  rw[List.map_cons,List.any_cons,ih];show((j==i)||decide (i∈js))=_;by_cases q:i=j
  ·subst q;simp
  ·have:(j==i)=false:=by simpa using λe=>q e.symm
   rw[this,Bool.false_or,Bool.eq_iff_iff,decide_eq_true_iff,decide_eq_true_iff,List.mem_cons];exact⟨.inr,λh=>h.resolve_left q⟩
theorem kZ {i:Int}(js:List Int):aK .In (.int i) (.tup (js.map V.int)) Y=some (decide (i∈js),Y):=by
 show bL (inL (.int i) (js.map V.int)) Y=_;have:inL (.int i) (js.map V.int)=some (decide (i∈js)):=by
  unfold inL;rw[rR,bB8];rfl
 rw[this];rfl
theorem am1 {i:Int}(js:List Int):aK .NotIn (.int i) (.tup (js.map V.int)) Y=some (!decide (i∈js),Y):=by
 show aB (aK .In (.int i) (.tup (js.map V.int))) (λc=>ret !c) Y=_;rw[st (kZ js)];rfl
theorem uX {i:Int}(ps:List Nat):aK .In (.int i) (.tup (bQ ps)) Y=some (inJ i ps,Y):=by
 have:bQ ps=(ps.map λ(p:Nat)=>(p:Int)).map V.int:=by simp[bQ]
 rw[this,kZ];congr 2;rw[Bool.eq_iff_iff];simp[inJ]
theorem bd7 (T:TbOk tb){s t:Nat}{a b:U}(ha:tb[s]?=some (.u a))(hb:tb[t]?=some (.u b)):decide ((s:Int)=t)=decide (a=b):=by
 rw[Bool.eq_iff_iff,decide_eq_true_iff,decide_eq_true_iff];constructor
 ·intro h;have:s=t:=by lia
  subst this;simpa using ha.symm.trans hb
 ·rintro rfl;have:=(List.getElem?_inj (zG ha).1 T.nd).mp (ha.trans hb.symm);lia
theorem cR (T:TbOk tb){s:Nat}{a:U}(ha:tb[s]?=some (.u a))(i:Nat)(x:U)(h:first[i]?=some (.u x)):decide ((s:Int)=i)=decide (a=x):=bd7 T ha (bG T h)
def bR (a b:U):Bool:=
 if decide (a=b)||(decide (b=.any)||(decide (b=.unk)||decide (b=.err)))||(decide (a=.nev)||decide (a=.err))then true
 else if a=.any then !decide (b=.nev)else if decide (a=.und)&&decide (b=.void)then true else decide (wU a=some b)
theorem ad8 (T:TbOk tb){t:Nat}{b:U}(a:U)(hb:tb[t]?=some (.u b)):decide (d6 a=t)=decide (wU a=some b):=by
 rw[Bool.eq_iff_iff,decide_eq_true_iff,decide_eq_true_iff];rcases ac3 a with⟨h,e⟩ | ⟨h,e⟩ | ⟨h,e⟩
 ·rw[h,e];constructor
  ·intro h;lia
  ·intro h;cases h
 ·rw[h,e];have:=gR T (i:=6) (r:=.u .str) rfl (t:=t);rw[hb]at this;simp only[Option.some.injEq,Row.u.injEq]at this ⊢;rw[eq_comm (a:=U.str),this];lia
 ·rw[h,e];have:=gR T (i:=7) (r:=.u .num) rfl (t:=t);rw[hb]at this;simp only[Option.some.injEq,Row.u.injEq]at this ⊢;rw[eq_comm (a:=U.num),this];lia
theorem lB (n:Nat){s t:Nat}{a b:U}(T:TabAt Y tb)(ha:tb[s]?=some (.u a))(hb:tb[t]?=some (.u b)):aD (n+2) (.fn 81 0) [.ref 0,.int s,.int t] Y=some (.bool (bR a b),Y):=by
 rw[aa2];unfold v0;have hm:∀{s:Nat} {a:U},tb[s]?=some (.u a)→decide ((s:Int)∈[(0:Int),1,13])=(decide (a=.any)||(decide (a=.unk)||decide (a=.err))):=λ{s a} ha=>by
  have h0:=cR T.ok ha 0 .any rfl;have h1:=cR T.ok ha 1 .unk rfl;have h13:=cR T.ok ha 13 .err rfl;rw[←h0,←h1,←h13,Bool.eq_iff_iff];simp
 have hm2:decide ((s:Int)∈[(2:Int),13])=(decide (a=.nev)||decide (a=.err)):=by
  have h0:=cR T.ok ha 2 .nev rfl;have h13:=cR T.ok ha 13 .err rfl;rw[←h0,←h13,Bool.eq_iff_iff];simp
 have e1:aK .Eq (.int s) (.int t) Y=some (decide (a=b),Y):=by rw[aW,bd7 T.ok ha hb]
 have e2:aK .In (.int t) (.tup [.int 0,.int 1,.int 13]) Y=some (decide (b=.any)||(decide (b=.unk)||decide (b=.err)),Y):=by
  rw[←hm hb];exact kZ [0,1,13]
 have e3:aK .In (.int s) (.tup [.int 2,.int 13]) Y=some (decide (a=.nev)||decide (a=.err),Y):=by
  rw[←hm2];exact kZ [2,13]
 rw[st (oX e1 λ_=>oX e2 λ_=>l9 e3)];unfold bR;rw[←Bool.or_assoc];split
 ·rfl
 ·rw[st aW,show decide ((s:Int)=0)=decide (a=.any)from cR T.ok ha 0 .any rfl];by_cases q:a=.any
  ·rw[if_pos (decide_eq_true q),if_pos q,st pG,show decide ((t:Int)=2)=decide (b=.nev)from cR T.ok hb 2 .nev rfl];rfl
  ·have e4:aK .Eq (.int s) (.int 4) Y=some (decide (a=.und),Y):=by rw[aW];exact congrArg (λx=>some (x,Y)) (cR T.ok ha 4 .und rfl)
   have e5:aK .Eq (.int t) (.int 3) Y=some (decide (b=.void),Y):=by rw[aW];exact congrArg (λx=>some (x,Y)) (cR T.ok hb 3 .void rfl)
   rw[if_neg (by simpa using q),if_neg q,st (mA e4 λ_=>j1 e5)];split
   ·rfl
   ·rw[aC,st T.rows,aC,st (T.item ha),aC,st (fB _),aC,st (lA n (.u a) Y),st aW,bW];show some (V.bool (decide (d6 a=t)),Y)=_;rw[ad8 T.ok a hb]
end
section
variable {Y Y':H}{tb tb':List Row}{t n:Nat}{r:Row}{call:CT}
def mX (u:U):Bool:=if u∈[U.any,.unk,.nev,.err]then true else false
def Kd (tb:List Row)(t:Nat)(us:List U):Prop:=
 (∃x,tb[t]?=some (.u x)∧mX x=true∧us=(if x=.nev then[]else[x]))∨
 (∃K R,Term tb t K us∧Rows tb R (us.map aL)∧(2≤K.length→2≤(cF tb R).length→.un (cF tb R)∈tb))
theorem k8 (T:TbOk tb){i j:Nat}{r:Row}(h:tb[i]?=some r)(h2:tb[j]?=some r):i=j:=
 (List.getElem?_inj (zG h).1 T.nd).mp (h.trans h2.symm)
theorem bq4 {u:U}(h:mX u=true):cV u=false:=by apply iS (p:=mX) u h;ext
theorem bh1 {x:U}(h:mX x=true):x=.any∨x=.unk∨x=.nev∨x=.err:=by
 have:=bm2 (f:=λx=>!mX x||(decide (x=.any)||(decide (x=.unk)||(decide (x=.nev)||decide (x=.err))))) (by nofun) x;rw[h]at this;simpa using this
theorem bD8 {u:U}(h:mX u=true):aL u=u:=by apply iS (p:=mX) u h;ext
theorem bq2 {u:U}(h:mX u=true):mY (.u u)=.u u:=by apply iS (p:=mX) u h;ext
theorem Term.row {K:List Nat}{us:List U}(h:Term tb t K us):∃r,tb[t]?=some r∧∀x,mX x=true→r≠.u x:=by
 rcases h.at_ with⟨u,rfl,rfl,h1,h2⟩ | ⟨h1,h2⟩
 ·refine⟨_,h1,λx hx e=>?_⟩;cases e;exact Bool.noConfusion ((bq4 hx).symm.trans h2)
 ·exact⟨_,h1,λx _ e=>by cases e⟩
theorem Term.notTop (T:TbOk tb){K:List Nat}{us:List U}(h:Term tb t K us){i:Nat}{x:U}(hi:first[i]?=some (.u x))(hx:mX x=true):t≠i:=by
 rintro rfl;obtain⟨r,h1,h2⟩:=h.row;have:=h1.symm.trans (bG T hi);simp at this;exact h2 x hx this
theorem Kd.reg (n:Nat){us:List U}(T:TabAt Y tb)(h:Kd tb t us)(hn:tb.length < 80000) :
  ∃t' K' ks Y',aD (n+4) (.fn 76 0) [.ref 0,.int t] Y=some (.int (t':Nat),Y')∧TabAt Y' tb∧Fr No Y Y'∧(∃r,tb[t']?=some r)∧cN tb t'=K'∧Rows tb K' ks∧(∀u,u∈ks↔u∈us.map aL)∧K'.length≤10∧
   (∀(i:Nat) x,first[i]?=some (.u x)→mX x=true→(t'=i↔t=i)):=by
 rcases h with⟨x,h1,h2,rfl⟩ | ⟨K,R,hT,hR,hun⟩
 ·have e:aD (n+4) (.fn 76 0) [.ref 0,.int t] Y=some (.int (t:Nat),Y):=by
   rw[vZ];unfold xS;rw[aC,st T.frz,aC,st (aH _),aC,st (aZ7 _ T h1),st aW,if_neg (bM5 x),st T.frz,st (aH _)];obtain⟨t',tb',Y',e,a,b,c⟩:=jS (n+1) T h1 (by lia);have hx:mY (.u x)=.u x:=bq2 h2;rw[hx]at b c;obtain⟨rfl,rfl⟩:=c (zE h1);rw[st e,aH,k8 T.ok b h1]
  have hf:aL x=x:=bD8 h2;by_cases q:x=.nev
  ·subst q;have:t=2:=(gR T.ok (i:=2) rfl).mp h1;exact⟨t,[],[],Y,e,T,Fr.rfl,⟨_,h1⟩,if_pos this,rfl,by simp,by simp,λ_ _ _ _=>Iff.rfl⟩
  ·exact⟨t,[t],[x],Y,e,T,Fr.rfl,⟨_,h1⟩,lK T.ok h1 q,.cons h1 rfl,by simp[q,hf],by simp,λ_ _ _ _=>Iff.rfl⟩
 ·obtain⟨t',K',ks,R',tb',Y',e,a,b,c,d,f,g⟩:=aD1 n T hT hn;have:=g R hR hun;subst this;obtain⟨r,hr,_⟩:=b.row;exact⟨t',K',ks,Y',e,a.at',a.same T rfl,⟨r,hr⟩,b.parts T.ok,b.rows,c,b.five,λi x hi hx=>⟨λh=>absurd h (b.notTop T.ok hi hx),λh=>absurd h (hT.notTop T.ok hi hx)⟩⟩
theorem Fr.len {P:Nat→Prop}{Y Y':H}(a:Fr P Y Y'):Y.length≤Y'.length:=a.1
theorem Fr.setNew {P:Nat→Prop}{Y Y':H}{c:Nat}{o:O}(a:Fr P Y Y')(h:Y.length≤c):Fr P Y (Y'.set c o):=by
 refine⟨by simpa using a.1,λn o' e q=>?_⟩;have:=lV e;rw[List.getElem?_set_ne (by lia)];exact a.2 n o' e q
theorem TabAt.of (T:TabAt Y tb)(F:Fr No Y Y'):TabAt Y' tb:=T.fr F id id id
def bZ (p:U→U→Bool)(A B:List U):Bool:=A.all λa=>B.any λb=>p a b
theorem xB {p:U→U→Bool}{A B A' B':List U}(hA:∀u,u∈A↔u∈A')(hB:∀u,u∈B↔u∈B'):bZ p A B=bZ p A' B':=by
 unfold bZ;rw[Bool.eq_iff_iff];simp only[List.all_eq_true,List.any_eq_true];constructor
 ·intro h a ha;obtain⟨b,hb,e⟩:=h a ((hA a).mpr ha);exact⟨b,(hB b).mp hb,e⟩
 ·intro h a ha;obtain⟨b,hb,e⟩:=h a ((hA a).mp ha);exact⟨b,(hB b).mpr hb,e⟩
theorem bI8 (n:Nat){s:Nat}{a:U}(T:TabAt Y tb)(ha:tb[s]?=some (.u a))(ρ:LE)(h1:ρ (S "tab")=some (.ref 0))(h2:ρ (S "part")=some (.int s)){K:List Nat}{ks:List U}(hK:Rows tb K ks)(hh:ρ (S "held")=some (.bool false)) :
  ∃ρ',ρ' (S "held")=some (.bool (ks.any λb=>bR a b))∧(∀x,x≠S "held"→x≠S "other"→ρ' x=ρ x)∧∀k,b9 (ret ()) (fF (aD (n+2))) (bQ K) ρ k Y=k ρ' Y:=by
 obtain⟨ρ',Y',⟨rfl,us',h,e,hus,e2,e3⟩,e4⟩:=aH8 (enc:=λ(p:Nat)=>V.int p) (w:=ret ()) (f:=fF (aD (n+2)))
  (λl ρ' Y'=>Y'=Y∧∃us' h,Rows tb l us'∧(h||us'.any λb=>bR a b)=(ks.any λb=>bR a b)∧ρ' (S "held")=some (.bool h)∧∀x,x≠S "held"→x≠S "other"→ρ' x=ρ x) (λ_ _ _ _=>rfl)
  (λp l ρ' Y' hI=>by
   obtain⟨rfl,us',h,hr,e,e2,e3⟩:=hI;obtain⟨u,us',rfl,hp,hr⟩:=cW hr;have e1:(aB (aQ (ρ' (S "tab")) λr24=>aB (aA r24) λf25=>aQ (ρ' (S "part")) λr26=>aB (aA r26) λf27=>aB (aA (.int p)) λf28=>
     aB (aD (n+2) (.fn 81 0) [f25,f27,f28]) λv29=>aS v29) λb=>ret b) Y'=some (bR a u,Y'):=by
    rw[e3 _ (by nofun) (by nofun),e3 _ (by nofun) (by nofun),h1,h2,aF,aC,st T.frz,aF,aC,st (aH _),aC,st (aH _),aC,st (lB n T ha hp),st (bJ _)];rfl
   rw[gA]at e1;by_cases q:bR a u=true
   ·refine⟨upd (upd ρ' (S "other") (.int p)) (S "held") (.bool true),Y',⟨rfl,us',true,hr,?_,bE,λx hx hx2=>?_⟩,λk=>?_⟩
    ·rw[←e];simp[q]
    ·rw[qG hx,qG hx2];exact e3 x hx hx2
    ·unfold fF;rw[st e1,if_pos q]
   ·refine⟨upd ρ' (S "other") (.int p),Y',⟨rfl,us',h,hr,?_,?_,λx hx hx2=>?_⟩,λk=>?_⟩
    ·rw[←e];simp[q]
    ·rw[qG (by nofun)];exact e2
    ·rw[qG hx2];exact e3 x hx hx2
    ·unfold fF;rw[st e1,if_neg q]) K ρ Y ⟨rfl,ks,false,hK,by simp,hh,λ_ _ _=>rfl⟩
 cases us' with
 | nil=>refine⟨ρ',?_,e3,e4⟩;rw[e2,←hus];simp
 | cons _ _=>simp[Rows]at e
theorem bb7 {x:U}(h:aL x=.any):x=.any:=by
 refine iS (p:=λu=>decide (aL u=.any)) (f:=λu=>u) (g:=λ_=>.any) x (decide_eq_true h) ?_;ext
theorem Kd.any (T:TbOk tb){s:Nat}{A:List U}(h:Kd tb s A):(s=0→A=[.any])∧(s≠0→U.any∉A.map aL):=by
 rcases h with⟨x,h1,h2,rfl⟩ | ⟨K,R,hT,hR,hun⟩
 ·constructor
  ·rintro rfl;have:=h1.symm.trans (bG T (i:=0) rfl);simp at this;subst this;rfl
  ·intro h hm;obtain⟨y,hy,e⟩:=zM hm;have hyx:y=x:=by
    split at hy
    ·cases hy
    ·exact List.mem_singleton.mp hy
   rw[hyx]at e;have:=bb7 e;subst this;exact h ((gR T (i:=0) rfl).mp h1)
 ·constructor
  ·rintro rfl;exact absurd rfl (hT.notTop T (i:=0) rfl rfl)
  ·intro _ hm;obtain⟨y,hy,e⟩:=zM hm;have q:=hT.atom y hy;rw[bb7 e]at q;cases q
abbrev cb1 (Y:H)(tb:List Row)(t':Nat)(kt:List U)(b:Bool)(s:Nat)(nt:Bool)(l:List Nat)(ρ:LE)(Y':H)(c:Nat)(cs:List V)(us':List U):Prop:=ρ (S "tab")=some (.ref 0)∧ρ (S "t")=some (.int t')∧ρ (S "codes")=some (.ref c)∧Y'[c]?=some (.list cs)∧Y.length≤c∧Rows tb l us'∧bZ bR us' kt=b∧(s≠0→U.any∉us'∧cs=[])∧(s=0→(us'=[.any]∧cs=[])∨(us'=[]∧cs=if nt then[]else[.int 1]))
theorem aI8 (n:Nat){s:Nat}{A B:List U}(T:TabAt Y tb)(hs:Kd tb s A)(ht:Kd tb t B)(hn:tb.length < 80000) :
  ∃Y',aD (n+5) (.fn 82 0) [.ref 0,.int s,.int t] Y=some (.tup [.bool (bZ bR (A.map aL) (B.map aL)),.lst (if bZ bR (A.map aL) (B.map aL)&&(decide (s=0)&&!decide (t=0∨t=1∨t=13))then[.int 1]else[])],Y')∧Fr No Y Y':=by
 rw[aa3];unfold v8;have F1:Fr No Y (Y++[.list []]):=Fr.app;obtain⟨t',Kt,kt,Y2,e2,T2,F2,⟨rt,hrt⟩,pt,rwt,mt,_,tt⟩:=ht.reg n (T.of F1) hn;obtain⟨s',Ks,ks,Y3,e3,T3,F3,⟨rs,hrs⟩,ps,rws,ms,_,ts⟩:=hs.reg n T2 hn;rw[st gS];unfold pT;rw[st (T.of F1).frz,st (aH _),st e2,st T2.frz,st T2.frz,st (aH _),st e3,st (aH _),st (iY _ T3 hrs),ps,st (eQ _)];rw[←xB ms mt];have hs0:s=0→ks=[.any]:=λh=>by
  have h':=(ts 0 .any rfl rfl).mpr h;subst h';have:Ks=[0]:=by rw[←ps];exact lK T.ok (bG T.ok rfl) (by decide)
  subst this;obtain⟨u,us',rfl,h1,h2⟩:=cW rws;have hu:=h1.symm.trans (bG T.ok (i:=0) rfl);simp at hu;subst hu;cases us' with
  | nil=>rfl
  | cons _ _=>simp[Rows]at h2
 have hs1:s≠0→U.any∉ks:=λh hm=>(hs.any T.ok).2 h ((ms _).mp hm);have hl3:Y.length < Y3.length:=by have:=F2.1;have:=F3.1;simp at *;lia
 have hc3:Y3[Y.length]?=some (.list []):=F3.get (F2.get k9 id) id;have NT:(decide ((t':Int)∈[(0:Int),1,13]))=decide (t=0∨t=1∨t=13):=by
  have a0:=tt 0 .any rfl rfl;have a1:=tt 1 .unk rfl rfl;have a13:=tt 13 .err rfl rfl;rw[Bool.eq_iff_iff,decide_eq_true_iff,decide_eq_true_iff];simp only[List.mem_cons,List.not_mem_nil,or_false];exact or_congr ((Int.ofNat_inj (n:=0)).trans a0) (or_congr ((Int.ofNat_inj (n:=1)).trans a1) ((Int.ofNat_inj (n:=13)).trans a13))
 generalize hNT:decide (t=0∨t=1∨t=13)=nt at *;generalize hb:bZ bR ks kt=b;have key:=ax5 (enc:=λ(p:Nat)=>V.int p) (w:=ret ()) (f:=dC (aD (n+4)))
  (λl ρ Y'=>TabAt Y' tb∧Fr No Y Y'∧∃c cs us',cb1 Y tb t' kt b s nt l ρ Y' c cs us')
  (λv Y'=>v=.tup [.bool false,.lst []]∧b=false∧Fr No Y Y') (λ_ _ _ _=>rfl)
  (λp l ρ Y' hI=>by
   obtain⟨T',F',c,cs,us',h1,h2,h3,h4,h5,hr0,h6,h7,h8⟩:=hI;obtain⟨a,us',rfl,hp,hr⟩:=cW hr0;obtain⟨ρ',a1,a2,a3⟩:=bI8 (n+2) T' hp (upd (upd ρ (S "part") (.int p)) (S "held") (.bool false)) (by rw[aI (by nofun),aI (by nofun)];exact h1) (by rw[aI (by nofun),bE]) rwt bE;have b1:ρ' (S "tab")=some (.ref 0):=by rw[a2 _ (by nofun) (by nofun),aI (by nofun),aI (by nofun)];exact h1
   have b2:ρ' (S "t")=some (.int t'):=by rw[a2 _ (by nofun) (by nofun),aI (by nofun),aI (by nofun)];exact h2
   have b3:ρ' (S "codes")=some (.ref c):=by rw[a2 _ (by nofun) (by nofun),aI (by nofun),aI (by nofun)];exact h3
   have b4:ρ' (S "part")=some (.int p):=by rw[a2 _ (by nofun) (by nofun),aI (by nofun),bE]
   have go:∀k,dC (aD (n+4)) (.int p) ρ k Y'=gY (aD (n+4)) k ρ' Y':=λk=>by
    unfold dC;rw[h1,h2,aF,st T'.frz,aF,st (aH _),st (iY _ T' hrt),pt,st (eQ _)];exact a3 _
   have eT:(aB (aB (aQ (ρ' (S "held")) λr32=>aS r32) λb33=>ret !b33) λc=>ret c) Y'=some (!(kt.any λb=>bR a b),Y'):=by
    rw[a1,aF,gA,st (bJ _)];rfl
   rw[gA]at eT;have hall:bZ bR (a::us') kt=((kt.any λb=>bR a b)&&bZ bR us' kt):=rfl;rw[hall]at h6;cases q:(kt.any λb=>bR a b)with
   | false=>
    refine .inr ⟨.tup [.bool false,.lst []],Y',⟨rfl,by rw[←h6,q];rfl,F'⟩,λk=>?_⟩;rw[go];unfold gY;rw[st eT,q];rfl
   | true=>
    rw[q]at h6 eT;have e1:aK .Eq (.int p) (.int 0) Y'=some (decide (a=.any),Y'):=by rw[aW];exact congrArg (λx=>some (x,Y')) (cR T.ok hp 0 .any rfl)
    have e2:aK .NotIn (.int t') (.tup [.int 0,.int 1,.int 13]) Y'=some (!nt,Y'):=by
     rw[←NT];exact am1 [0,1,13]
    have go2:∀k,dC (aD (n+4)) (.int p) ρ k Y'=(if decide (a=.any)&&!nt then(aB (bN (.list [(.int 1)])) λv45=>k (upd ρ' (S "codes") v45))else(k ρ')) Y':=λk=>by
     rw[go];unfold gY;rw[st eT,if_neg (by simp)];unfold pS;rw[b4,b2,aF,aF,st (mA e1 λ_=>j1 e2)]
    by_cases qa:a=.any
    ·subst qa;by_cases q0:s=0
     ·have hus:us'=[]:=by
       rcases h8 q0 with⟨h,_⟩ | ⟨h,_⟩
       ·simpa using h
       ·cases h
      have hcs:cs=[]:=by
       rcases h8 q0 with⟨_,h⟩ | ⟨h,_⟩
       ·exact h
       ·cases h
      subst hus;cases qn:nt with
      | true=>
       refine .inl ⟨ρ',Y',⟨T',F',c,cs,[],b1,b2,b3,h4,h5,hr,by rw[←h6];rfl,λh=>absurd q0 h,λ_=>.inr ⟨rfl,by simp[hcs]⟩⟩,λk=>?_⟩;rw[go2,qn];rfl
      | false=>
       refine .inl ⟨upd ρ' (S "codes") (.ref Y'.length),Y'++[.list [.int 1]],⟨T'.of Fr.app,F'.trans Fr.app,Y'.length,[.int 1],[],by rw[aI (by nofun)];exact b1,by rw[aI (by nofun)];exact b2,bE,k9,F'.1,hr,
        by rw[←h6];rfl,λh=>absurd q0 h,λ_=>.inr ⟨rfl,by simp⟩⟩,λk=>?_⟩
       rw[go2,qn,if_pos (by decide),st gS]
     ·exact absurd zS (h7 q0).1
    ·refine .inl ⟨ρ',Y',⟨T',F',c,cs,us',b1,b2,b3,h4,h5,hr,by rw[←h6];rfl,λh=>⟨λhm=>(h7 h).1 (zC _ hm),(h7 h).2⟩,λh=>?_⟩,λk=>?_⟩
     ·rcases h8 h with⟨h,_⟩ | ⟨h,_⟩
      ·cases h;exact absurd rfl qa
      ·cases h
     ·rw[go2,show decide (a=.any)=false by simpa using qa];rfl) Ks
  (upd (upd (upd (upd (upd e0 (S "tab") (.ref 0)) (S "s") (.int s)) (S "t") (.int t)) (S "codes") (.ref Y.length)) (S "t") (.int t')) Y3
  ⟨T3,F1.trans (F2.trans F3),Y.length,[],ks,by rw[aI (by nofun),aI (by nofun),aI (by nofun),aI (by nofun),bE],bE,by rw[aI (by nofun),bE],hc3,zR,rws,hb,
   λh=>⟨hs1 h,rfl⟩,λh=>.inl ⟨hs0 h,rfl⟩⟩
 rcases key with⟨ρ',Y4,⟨T4,F4,c,cs,us',h1,h2,h3,h4,h5,hr,h6,h7,h8⟩,e⟩ | ⟨v,Y4,⟨rfl,hb,F4⟩,e⟩
 ·rw[show ∀k,b9 (still (bQ Ks) (aP (.tup (bQ Ks)))) (dC (aD (n+4))) (bQ Ks) _ k Y3=k ρ' Y4 from e];unfold pU;have hus:us'=[]:=by cases us' with
   | nil=>rfl
   | cons _ _=>simp[Rows]at hr
  subst hus;have hbt:b=true:=h6.symm;rw[h3,aF,st (ao0 h4),iU,hbt]
  suffices hcs:cs=if(true&&(decide (s=0)&&!nt))=true then[V.int 1]else[] by rw[←hcs];exact⟨_,rfl,F4.setNew h5⟩
  by_cases q0:s=0
  ·rcases h8 q0 with⟨h,_⟩ | ⟨_,h⟩
   ·cases h
   ·rw[h];cases nt<;>simp[q0]
  ·rw[(h7 q0).2];simp[q0]
 ·rw[show ∀k,b9 (still (bQ Ks) (aP (.tup (bQ Ks)))) (dC (aD (n+4))) (bQ Ks) _ k Y3=_ from e,hb];exact⟨Y4,rfl,F4⟩
end
section
variable {Y Y':H}{tb tb':List Row}{t n:Nat}{r:Row}{call:CT}
def fD (p:U→U→Bool)(A B:List U):Bool:=A.any λa=>B.any λb=>p a b
theorem aJ2 {p:U→U→Bool}{A B A' B':List U}(hA:∀u,u∈A↔u∈A')(hB:∀u,u∈B↔u∈B'):fD p A B=fD p A' B':=by
 unfold fD;rw[Bool.eq_iff_iff];simp only[List.any_eq_true];constructor
 ·rintro⟨a,ha,b,hb,e⟩;exact⟨a,(hA a).mp ha,b,(hB b).mp hb,e⟩
 ·rintro⟨a,ha,b,hb,e⟩;exact⟨a,(hA a).mpr ha,b,(hB b).mpr hb,e⟩
theorem bo6 {p:U→Bool}{A A':List U}(hA:∀u,u∈A↔u∈A'):A.any p=A'.any p:=by
 rw[Bool.eq_iff_iff];simp only[List.any_eq_true];exact⟨λ⟨a,h,e⟩=>⟨a,(hA a).mp h,e⟩,λ⟨a,h,e⟩=>⟨a,(hA a).mpr h,e⟩⟩
def dZ (a b:U):Bool:=bR a b||bR b a
theorem ax7 (n:Nat){s:Nat}{A B:List U}(T:TabAt Y tb)(hs:Kd tb s A)(ht:Kd tb t B)(hn:tb.length < 80000) :
  ∃Y',aD (n+5) (.fn 83 0) [.ref 0,.int s,.int t] Y=some (.bool (decide (s=2∨t=2)||fD dZ (A.map aL) (B.map aL)),Y')∧Fr No Y Y':=by
 rw[xY];unfold tL;have e1:aK .Eq (.int s) (.int 2) Y=some (decide (s=2),Y):=by rw[aW];congr 2;rw[Bool.eq_iff_iff,decide_eq_true_iff,decide_eq_true_iff];lia
 have e2:aK .Eq (.int t) (.int 2) Y=some (decide (t=2),Y):=by rw[aW];congr 2;rw[Bool.eq_iff_iff,decide_eq_true_iff,decide_eq_true_iff];lia
 rw[st (show nT (aD (n+4)) (.int s) (.int t) Y=_ from oX e1 λ_=>l9 e2),←Bool.decide_or];by_cases q:s=2∨t=2
 ·rw[if_pos (decide_eq_true q),decide_eq_true q];exact⟨Y,rfl,Fr.rfl⟩
 ·rw[if_neg (by simpa using q),decide_eq_false q,Bool.false_or];obtain⟨s',Ks,ks,Y3,e3,T3,F3,⟨rs,hrs⟩,ps,rws,ms,_,ts⟩:=hs.reg n T hn;unfold nU;rw[st T.frz,st T.frz,st (aH _),st e3,st (aH _),st (iY _ T3 hrs),ps,st (eQ _),←aJ2 ms (λ_=>Iff.rfl)];have key:=ax5 (enc:=λ(p:Nat)=>V.int p) (w:=ret ()) (f:=dI (aD (n+4)))
   (λl ρ Y'=>TabAt Y' tb∧Fr No Y Y'∧∃us',ρ (S "tab")=some (.ref 0)∧ρ (S "t")=some (.int t)∧Rows tb l us'∧fD dZ us' (B.map aL)=fD dZ ks (B.map aL))
   (λv Y'=>v=.bool (fD dZ ks (B.map aL))∧Fr No Y Y') (λ_ _ _ _=>rfl)
   (λp l ρ Y' hI=>by
    obtain⟨T',F',us',h1,h2,hr0,h3⟩:=hI;obtain⟨a,us',rfl,hp,hr⟩:=cW hr0;obtain⟨t',Kt,kt,Y2,e2,T2,F2,⟨rt,hrt⟩,pt,rwt,mt,_,tt⟩:=ht.reg n T' hn;have hall:fD dZ (a::us') (B.map aL)=(kt.any (dZ a)||fD dZ us' (B.map aL)):=by rw[bo6 mt];rfl
    rw[hall]at h3;have key2:=ax5 (enc:=λ(p:Nat)=>V.int p) (w:=ret ()) (f:=dJ (aD (n+4)))
     (λl ρ' Y'=>Y'=Y2∧∃us',ρ' (S "tab")=some (.ref 0)∧ρ' (S "t")=some (.int t)∧ρ' (S "part")=some (.int p)∧Rows tb l us'∧us'.any (dZ a)=kt.any (dZ a))
     (λv Y'=>v=.bool true∧Y'=Y2∧kt.any (dZ a)=true) (λ_ _ _ _=>rfl)
     (λp' l ρ' Y' hI=>by
      obtain⟨rfl,us',g1,g2,g3,hr1,g4⟩:=hI;obtain⟨b,us',rfl,hp',hr'⟩:=cW hr1;have eT:jD (aD (n+4)) ρ' (.int p') Y'=some (dZ a b,Y'):=by
       unfold jD;rw[g1,g3];refine oX ?_ λ_=>l9 ?_
       ·rw[aF,st T2.frz,aF,st (aH _),st (aH _),st (lB (n+2) T2 hp hp'),bJ]
       ·rw[aF,st T2.frz,st (aH _),aF,st (aH _),st (lB (n+2) T2 hp' hp),bJ]
      cases qm:dZ a b with
      | true=>
       refine .inr ⟨_,Y',⟨rfl,rfl,by rw[←g4];simp[qm]⟩,λk=>?_⟩;unfold dJ;rw[st eT,qm];rfl
      | false=>
       refine .inl ⟨upd ρ' (S "other") (.int p'),Y',⟨rfl,us',by rw[aI (by nofun)];exact g1,by rw[aI (by nofun)];exact g2,by rw[aI (by nofun)];exact g3,hr',by rw[←g4];simp[qm]⟩,λk=>?_⟩;unfold dJ;rw[st eT,qm];rfl) Kt (upd ρ (S "part") (.int p)) Y2
     ⟨rfl,kt,by rw[aI (by nofun)];exact h1,by rw[aI (by nofun)];exact h2,bE,rwt,rfl⟩
    have go:∀k,dI (aD (n+4)) (.int p) ρ k Y'=b9 (ret ()) (dJ (aD (n+4))) (bQ Kt) (upd ρ (S "part") (.int p)) (nV (aD (n+4)) k) Y2:=λk=>by
     unfold dI;rw[h1,h2,aF,st T'.frz,aF,st T'.frz,aF,st (aH _),st e2,st (aH _),st (iY _ T2 hrt),pt,st (eQ _)];rfl
    rcases key2 with⟨ρ',Y4,⟨rfl,us'',g1,g2,g3,hr',g4⟩,e⟩ | ⟨v,Y4,⟨rfl,rfl,hk⟩,e⟩
    ·have hus:us''=[]:=by cases us'' with
      | nil=>rfl
      | cons _ _=>simp[Rows]at hr'
     subst hus;have hk:kt.any (dZ a)=false:=g4.symm;rw[hk,Bool.false_or]at h3;refine .inl ⟨ρ',Y4,⟨T2,F'.trans F2,us',g1,g2,hr,h3⟩,λk=>?_⟩;rw[go,show ∀k,b9 (ret ()) (dJ (aD (n+4))) (bQ Kt) _ k Y4=k ρ' Y4 from e];rfl
    ·rw[hk,Bool.true_or]at h3;refine .inr ⟨_,Y4,⟨by rw[←h3],F'.trans F2⟩,λk=>?_⟩;rw[go];exact e _) Ks (upd (upd (upd e0 (S "tab") (.ref 0)) (S "s") (.int s)) (S "t") (.int t)) Y3
   ⟨T3,F3,ks,by rw[aI (by nofun),aI (by nofun),bE],bE,rws,rfl⟩
  rcases key with⟨ρ',Y4,⟨T4,F4,us',h1,h2,hr,h3⟩,e⟩ | ⟨v,Y4,⟨rfl,F4⟩,e⟩
  ·have hus:us'=[]:=by cases us' with
    | nil=>rfl
    | cons _ _=>simp[Rows]at hr
   subst hus;rw[show ∀k,b9 (still (bQ Ks) (aP (.tup (bQ Ks)))) (dI (aD (n+4))) (bQ Ks) _ k Y3=k ρ' Y4 from e,←h3];exact⟨Y4,rfl,F4⟩
  ·rw[show ∀k,b9 (still (bQ Ks) (aP (.tup (bQ Ks)))) (dI (aD (n+4))) (bQ Ks) _ k Y3=_ from e];exact⟨Y4,rfl,F4⟩
theorem bD5 {m:M Bool}{m':M V}{p q:Bool}(h:m Y=some (p,Y))(h':p=false→m' Y=some (.bool q,Y)):aB m (λb=>aB (aS (.bool b)) λt=>bV .Or t m' (ret (.bool b))) Y=some (.bool (p||q),Y):=by
 rw[st h,st (bJ _)];cases p
 ·rw[gM,h' rfl];rfl
 ·rfl
theorem aJ7 {m:M Bool}{m':M V}{p q:Bool}(h:m Y=some (p,Y))(h':p=true→m' Y=some (.bool q,Y)):aB m (λb=>aB (aS (.bool b)) λt=>bV .And t m' (ret (.bool b))) Y=some (.bool (p&&q),Y):=by
 rw[st h,st (bJ _)];cases p
 ·rfl
 ·rw[dA,h' rfl];rfl
def lvU (u:U):Option U:=if u∈[U.ea,.eaf,.gx,.gxf]then some .n1 else if u∈[U.eb,.ebf]then some .n2 else if u∈[U.tp,.tpf]then some .sa else if u∈[U.tq,.tqf]then some .sb else none
theorem bD2 (tab parts:V)(a:U)(h:lvU a=none):m3 call tab (uN a) parts=ret (.bool false):=by
 apply iS (p:=λa=>(lvU a).isNone) a (by rw[h];rfl);ext
theorem bD1 (tab parts:V)(a b:U)(h:lvU a=some b):m3 call tab (uN a) parts =
  aB (aB (aR (S "index") tab) λv7=>aB (bF (S "get") v7) λm8=>cI (cG m8) (uN b) λf13=>cI (cG m8) (.int (-1)) λf14=>aB (bD call m8 (S "get") v7 [f13,f14]) λv15=>aK .In v15 parts) λb16=>aA (.bool b16):=by
 rw[show b=(lvU a).getD .any by rw[h];rfl];apply iS (p:=λa=>(lvU a).isSome) a (by rw[h];rfl);ext
theorem ax6 (n:Nat)(T:TabAt Y tb)(a:U){K:List Nat}{us:List U}(hK:Rows tb K us):aD (n+1) (.fn 85 0) [.ref 0,uN a,.tup (bQ K)] Y=some (.bool (us.any λb=>decide (lvU a=some b)),Y):=by
 rw[xQ];cases h:lvU a with
 | none=>rw[bD2 _ _ _ h];simp[ret]
 | some b=>
  rw[bD1 _ _ _ _ h,aC,st T.index,aC,st T.get,ad2,ad2,aC,show uN b=cB (.u b)from rfl,st (aP3 T.h2 (an5 tb (.u b)))];have go:∀z:Int,(∀q:Nat,(q:Int)=z↔tb[q]?=some (.u b))→inJ z K=us.any λb'=>decide (some b=some b'):=λz hz=>by
   rw[Bool.eq_iff_iff];simp only[inJ,List.any_eq_true,decide_eq_true_eq,Option.some.injEq];constructor
   ·rintro⟨q,hq,e⟩;have e2:=(hz q).mp e;exact⟨b,(hK.iff T.ok e2).mp hq,rfl⟩
   ·rintro⟨b',hb,rfl⟩;obtain⟨q,hq,e⟩:=hK.mem' hb;exact⟨q,hq,(hz q).mpr e⟩
  by_cases m:Row.u b∈tb
  ·obtain⟨i,hi⟩:=List.mem_iff_getElem?.mp m;rw[T.look_some hi,Option.getD_some,st (uX K),bW,go i λq=>⟨λe=>(show q=i by lia)▸hi,λe=>by rw[k8 T.ok e hi]⟩]
  ·rw[T.look_none m,Option.getD_none,st (uX K),bW,go (-1) λq=>⟨λe=>by lia,λe=>absurd (zE e) m⟩]
def dB (a b:U):Bool:=decide (a=b)||(decide (wU a=some b)||decide (lvU a=some b))||(decide (a=.und)&&decide (b=.void))
theorem u7 {α:Type}(l:List α)(p q:α→Bool):(l.any λx=>p x||q x)=(l.any p||l.any q):=by
 induction l with
 | nil=>rfl
 | cons x l ih=>
  rw[List.any_cons,List.any_cons,List.any_cons,ih];cases p x<;>cases q x<;>cases l.any p<;>cases l.any q<;>rfl
theorem wS (T:TbOk tb){K:List Nat}{us:List U}(hK:Rows tb K us){p:Nat}{a:U}(h:tb[p]?=some (.u a)):inJ p K=us.any λb=>decide (a=b):=by
 rw[ad0,Bool.eq_iff_iff,decide_eq_true_iff,hK.iff T h];simp
theorem aT3 (T:TbOk tb){K:List Nat}{us:List U}(hK:Rows tb K us)(a:U):inJ (d6 a) K=us.any λb=>decide (wU a=some b):=by
 rcases ac3 a with⟨h,e⟩ | ⟨h,e⟩ | ⟨h,e⟩
 ·rw[h,e];have:inJ (-1) K=false:=by
   rw[Bool.eq_false_iff];simp only[inJ,ne_eq,List.any_eq_true,decide_eq_true_eq];rintro⟨q,_,e⟩;lia
  rw[this];simp
 ·rw[h,e,show inJ 6 K=_ from wS T hK (bG T (i:=6) (r:=.u .str) rfl)];simp
 ·rw[h,e,show inJ 7 K=_ from wS T hK (bG T (i:=7) (r:=.u .num) rfl)];simp
theorem aR6 (n:Nat){s:Nat}{A B:List U}(T:TabAt Y tb)(hs:Kd tb s A)(ht:Kd tb t B)(hn:tb.length < 80000) :
  ∃Y',aD (n+5) (.fn 86 0) [.ref 0,.int s,.int t] Y=some (.bool (decide (t=0∨t=1∨t=13)||bZ dB (A.map aL) (B.map aL)),Y')∧Fr No Y Y':=by
 rw[ag2];unfold yZ;have e1:∀i:Nat,aK .Eq (.int t) (.int i) Y=some (decide (t=i),Y):=λi=>by rw[aW];congr 2;rw[Bool.eq_iff_iff,decide_eq_true_iff,decide_eq_true_iff];lia
 have eT:qQ (aD (n+4)) (.int t) Y=some (decide (t=0∨t=1∨t=13),Y):=by
  rw[Bool.decide_or,Bool.decide_or];exact oX (e1 0) λ_=>oX (e1 1) λ_=>l9 (e1 13)
 rw[st eT];by_cases q:t=0∨t=1∨t=13
 ·rw[if_pos (decide_eq_true q),decide_eq_true q];exact⟨Y,rfl,Fr.rfl⟩
 ·rw[if_neg (by simpa using q),decide_eq_false q,Bool.false_or];obtain⟨t',Kt,kt,Y2,e2,T2,F2,⟨rt,hrt⟩,pt,rwt,mt,_,tt⟩:=ht.reg n T hn;obtain⟨s',Ks,ks,Y3,e3,T3,F3,⟨rs,hrs⟩,ps,rws,ms,_,ts⟩:=hs.reg n T2 hn;unfold qR;rw[st T.frz,st T.frz,st (aH _),st e2,st (aH _),st (iY _ T2 hrt),pt,st T2.frz,st T2.frz,st (aH _),st e3,st (aH _),st (iY _ T3 hrs),ps,st (eQ _),←xB ms mt];have key:=ax5 (enc:=λ(p:Nat)=>V.int p) (w:=ret ()) (f:=eJ (aD (n+4)))
   (λl ρ Y'=>Y'=Y3∧∃us',ρ (S "tab")=some (.ref 0)∧ρ (S "parts")=some (.tup (bQ Kt))∧Rows tb l us'∧bZ dB us' kt=bZ dB ks kt)
   (λv Y'=>v=.bool false∧bZ dB ks kt=false∧Y'=Y3) (λ_ _ _ _=>rfl)
   (λp l ρ Y' hI=>by
    obtain⟨rfl,us',h1,h2,hr0,h3⟩:=hI;obtain⟨a,us',rfl,hp,hr⟩:=cW hr0;have go:∀k,eJ (aD (n+4)) (.int p) ρ k Y'=(if !(kt.any λb=>dB a b)then aA (.bool false)
      else k (upd (upd (upd ρ (S "part") (.int p)) (S "row") (uN a)) (S "held") (.bool ((kt.any λb=>decide (a=b))||((kt.any λb=>decide (wU a=some b))||(kt.any λb=>decide (lvU a=some b))))))) Y':=λk=>by
     unfold eJ;have eH:=bD5 (Y:=Y') (m:=aQ (ρ (S "parts")) λr24=>aK .In (.int p) r24) (p:=kt.any λb=>decide (a=b)) (m':=aB (aB (aA (cB (.u a))) λf27=>aB (aD (n+4) (.fn 67 0) [f27]) λv28=>aQ (ρ (S "parts")) λr29=>aK .In v28 r29) λb30=>
       aB (aS (.bool b30)) λt31=>bV .Or t31 (aQ (some (V.ref 0)) λr32=>aB (aA r32) λf33=>aB (aA (cB (.u a))) λf34=>aQ (ρ (S "parts")) λr35=>aB (aA r35) λf36=>aB (aD (n+4) (.fn 85 0) [f33,f34,f36]) λv37=>ret v37) (ret (.bool b30)))
      (by rw[h2,aF,uX,wS T.ok rwt hp])
      λ_=>bD5 (p:=kt.any λb=>decide (wU a=some b)) (q:=kt.any λb=>decide (lvU a=some b)) (by rw[st (fB (.u a)),st (lA _ (.u a) _),h2,aF,uX];exact congrArg (λx=>some (x,Y')) (aT3 T.ok rwt a))
       λ_=>by rw[aF,st T3.frz,st (fB (.u a)),h2,aF,st (iU _),st (show aD (n+4) (.fn 85 0) [.ref 0,cB (.u a),.tup (bQ Kt)] Y'=_ from ax6 (n+3) T3 a rwt)];rfl
     have e4:aK .Eq (.int p) (.int 4) Y'=some (decide (a=.und),Y'):=by rw[aW];exact congrArg (λx=>some (x,Y')) (cR T.ok hp 4 .und rfl)
     have e5:(aQ (ρ (S "parts")) λr42=>aK .In (.int 3) r42) Y'=some (kt.any λb=>decide (.void=b),Y'):=by rw[h2,aF,uX];exact congrArg (λx=>some (x,Y')) (wS T.ok rwt (bG T.ok (i:=3) (r:=.u .void) rfl))
     have eT:∀hd,qP (aD (n+4)) (.bool hd) (.int p) ρ Y'=some (!hd&&!(decide (a=.und)&&kt.any λb=>decide (.void=b)),Y'):=λhd=>
      mA (aK2 (bJ hd)) λ_=>j1 (aK2 (mA e4 λ_=>j1 e5))
     rw[h1,aF,st T3.rows,st (T3.item hp)];unfold qS;rw[h1,st (show(aB (aQ (ρ (S "parts")) λr24=>aK .In (.int p) r24) _) Y'=_ from eH),st (eT _)];have:(!((kt.any λb=>decide (a=b))||((kt.any λb=>decide (wU a=some b))||(kt.any λb=>decide (lvU a=some b))))&&!(decide (a=.und)&&kt.any λb=>decide (.void=b)))=!(kt.any λb=>dB a b):=by
      unfold dB;rw[u7,u7,u7];have:(kt.any λx=>decide (a=.und)&&decide (x=.void))=(decide (a=.und)&&kt.any λb=>decide (.void=b)):=by
       cases decide (a=.und)
       ·simp
       ·simp[eq_comm]
      rw[this];exact(Bool.not_or _ _).symm
     rw[this];rfl
    have hall:bZ dB (a::us') kt=((kt.any λb=>dB a b)&&bZ dB us' kt):=rfl;rw[hall]at h3;cases qh:(kt.any λb=>dB a b)with
    | false=>exact .inr ⟨_,Y',⟨rfl,by rw[←h3,qh];rfl,rfl⟩,λk=>by rw[go,qh];rfl⟩
    | true=>
     refine .inl ⟨_,Y',⟨rfl,us',?_,?_,hr,by rw[←h3,qh];rfl⟩,λk=>by rw[go,qh];rfl⟩
     ·rw[aI (by nofun),aI (by nofun),aI (by nofun)];exact h1
     ·rw[aI (by nofun),aI (by nofun),aI (by nofun)];exact h2) Ks
   (upd (upd (upd (upd e0 (S "tab") (.ref 0)) (S "s") (.int s)) (S "t") (.int t)) (S "parts") (.tup (bQ Kt))) Y3
   ⟨rfl,ks,by rw[aI (by nofun),aI (by nofun),aI (by nofun),bE],bE,rws,rfl⟩
  rcases key with⟨ρ',Y4,⟨rfl,us',h1,h2,hr,h3⟩,e⟩ | ⟨v,Y4,⟨rfl,hb,rfl⟩,e⟩
  ·have hus:us'=[]:=by cases us' with
    | nil=>rfl
    | cons _ _=>simp[Rows]at hr
   subst hus;rw[show ∀k,b9 (still (bQ Ks) (aP (.tup (bQ Ks)))) (eJ (aD (n+4))) (bQ Ks) _ k Y4=k ρ' Y4 from e,←h3];exact⟨Y4,rfl,F2.trans F3⟩
  ·rw[show ∀k,b9 (still (bQ Ks) (aP (.tup (bQ Ks)))) (eJ (aD (n+4))) (bQ Ks) _ k Y4=_ from e,hb];exact⟨Y4,rfl,F2.trans F3⟩
end
section
variable {Y Y':H}{tb tb':List Row}{t n:Nat}{r:Row}{call:CT}
def ao4 (u:U):Int:=if u∈[U.any,.unk,.nev,.err]then 0 else if u=.void then 6 else if u=.und then 5 else if u=.nul then 4 else if u∈[U.str,.sa,.saf,.sb,.sbf,.tp,.tpf,.tq,.tqf]then 1 else if u∈[U.ff,.tt,.fff,.ftt]then 3 else if u∈[U.obj,.emp]then 7 else 2
def ax2 (u:U):Option Nat:=if u=.any then some 0 else if u=.unk then some 1 else if u=.nev then some 2 else if u=.void then some 3 else if u=.und then some 4 else if u=.nul then some 5 else if u=.str then some 6 else if u=.num then some 7 else if u=.obj then some 10 else if u=.err then some 13 else none
theorem bv0 (T:TbOk tb){a:U}{i:Nat}(h:ax2 a=some i)(e:tb[t]?=some (.u a)):t=i:=by
 have:first[(ax2 a).getD 0]?=some (.u a):=by apply iS (p:=λa=>(ax2 a).isSome) a (by rw[h];rfl);ext
 rw[h]at this;exact(gR T this).mp e
theorem ap6 (n:Nat)(T:TabAt Y tb){a:U}(h:tb[t]?=some (.u a)):aD (n+2) (.fn 79 0) [.ref 0,.int t] Y=some (.int (ao4 a),Y):=by
 rw[aM5];unfold aM6;rw[st T.rows,st (T.item h)];cases hk:ax2 a with
 | some i=>
  obtain rfl:=bv0 T.ok hk h;have ht:t=(ax2 a).getD 0:=by rw[hk];rfl
  rw[ht];exact(by apply iS (p:=λa=>(ax2 a).isSome) a (by rw[hk];rfl);ext)
 | none=>
  apply iS (p:=λa=>(ax2 a).isNone) a (by rw[hk];rfl);ext
def fN (a:U)(i:Nat):V:=match uN a with | .tup xs=>xs.getD i .none | _=>.none
def aE0 (a:U):V:=if a=.und then .tup [.int 5,.int 0]else if a=.nul then .tup [.int 4,.int 0]else if cL a=5 then .tup [.int (ao4 a),fN a 3]
 else if cL a=2∨cL a=3∨cL a=4 then .tup [.int (ao4 a),fN a 1]else .tup []
theorem bf2 (n:Nat)(T:TabAt Y tb){a:U}(h:tb[t]?=some (.u a)):aD (n+3) (.fn 135 0) [.ref 0,.int t] Y=some (aE0 a,Y):=by
 rw[xW];unfold tK;rw[st T.rows,st (T.item h)];cases hk:ax2 a with
 | some i=>
  obtain rfl:=bv0 T.ok hk h;have ht:t=(ax2 a).getD 0:=by rw[hk];rfl
  rw[ht];exact(by apply iS (p:=λa=>(ax2 a).isSome) a (by rw[hk];rfl);ext)
 | none=>
  have h4:decide ((t:Int)=4)=false:=by
   rw[show decide ((t:Int)=4)=_ from cR T.ok h 4 .und rfl];exact decide_eq_false (by rintro rfl;cases hk)
  have h5:decide ((t:Int)=5)=false:=by
   rw[show decide ((t:Int)=5)=_ from cR T.ok h 5 .nul rfl];exact decide_eq_false (by rintro rfl;cases hk)
  rw[st aW,h4,if_neg (by simp),st aW,h5,if_neg (by simp)];have hf:=ap6 n T h;have e5:jC (aD (n+2)) (cB (.u a)) Y=some (decide (cL a=5),Y):=(show ∀a:U,jC (aD (n+2)) (cB (.u a)) Y=some (decide (cL a=5),Y)from λa=>by apply gF a;ext) a;have e2:jB (aD (n+2)) (cB (.u a)) Y=some (decide (cL a=2∨cL a=3∨cL a=4),Y):=(show ∀a:U,jB (aD (n+2)) (cB (.u a)) Y=some (decide (cL a=2∨cL a=3∨cL a=4),Y)from λa=>by apply gF a;ext) a;have n4:a≠.und:=by rintro rfl;cases hk
  have n5:a≠.nul:=by rintro rfl;cases hk
  unfold aE0;rw[st e5,if_neg n4,if_neg n5];by_cases k5:cL a=5
  ·rw[if_pos (decide_eq_true k5),if_pos k5,st T.frz,st (aH _),st hf,st (aH _)];clear hf e5 e2 h hk n4 n5 h4 h5 T;apply iS (p:=λa=>cL a=5) a (decide_eq_true k5);ext
  ·rw[if_neg (by simpa using k5),if_neg k5,st e2];by_cases k2:cL a=2∨cL a=3∨cL a=4
   ·rw[if_pos (decide_eq_true k2),if_pos k2,st T.frz,st (aH _),st hf,st (aH _)];clear hf e5 e2 h hk n4 n5 h4 h5 T;apply iS (p:=λa=>cL a=2∨cL a=3∨cL a=4) a (decide_eq_true k2);ext
   ·rw[if_neg (by simpa using k2),if_neg k2];rfl
theorem aJ6 (a:U):dO 9 (aE0 a)=true:=by apply gF a;ext
theorem bp5 (a:U){b:V}(hb:dO 9 b=true):aK .Eq (aE0 a) b Y=some (PyData.eqv (pd (aE0 a)) (pd b),Y):=by
 show bL (eqv (aE0 a) b) Y=_;unfold eqv;rw[aJ6,hb];rfl
def uZ (a b:U):Bool:=if decide (ao4 a=0)||decide (ao4 b=0)then true else if !decide (ao4 a=ao4 b)then decide (ao4 b=6)&&decide (ao4 a=5)
 else PyData.eqv (pd (aE0 b)) (.tuple [])||PyData.eqv (pd (aE0 b)) (pd (aE0 a))
theorem ax8 (n:Nat){s:Nat}{a b:U}(T:TabAt Y tb)(ha:tb[s]?=some (.u a))(hb:tb[t]?=some (.u b)):aD (n+4) (.fn 136 0) [.ref 0,.int s,.int t] Y=some (.bool (uZ a b),Y):=by
 rw[x5];unfold tM uZ;rw[st T.frz,st (aH _),st (ap6 (n+1) T ha),st T.frz,st (aH _),st (ap6 (n+1) T hb),st (show nW (aD (n+3)) (.int (ao4 a)) (.int (ao4 b)) Y=_ from oX aW λ_=>l9 aW)];split
 ·rfl
 ·rw[st pG];split
  ·rw[st (aJ7 aW λ_=>by rw[st aW];rfl)];rfl
  ·rw[st T.frz,st (aH _),st (bf2 n T hb),st (bD5 (bp5 b rfl) λ_=>by rw[aC,st T.frz,aC,st (aH _),aC,st (bf2 n T ha),st (bp5 b (aJ6 a))];rfl)];rfl
end
set_option genInjectivity false in
structure RS where
 aE:Int
 bS:Nat
 a8:Nat
 tr:Nat
 aU:List Int
 bI:List ((Nat×Nat)×Bool)
 aN:List (Nat×Nat)
def gN (r:Nat)(rs:RS):List (Str×V):=[(S "host",.ref 9),(S "mode",.int rs.aE),(S "rules",.ref (r+1)),(S "assumed",.ref (r+2)),(S "known",.ref (r+3)),(S "trail",.ref rs.tr),(S "road",.ref (r+5)),
 (S "deep",.int rs.bS),(S "looks",.int rs.a8),(S "notes",.ref (r+6)),(S "telling",.bool true),(S "twin",.none),(S "missing",.str (S "")),(S "at",.int 0)]
def dR (k:Nat×Nat):V:=.tup [.int k.1,.int k.2]
def gQ (c:Int):V:=.tup [.int c,.int 0]
def mV (aN:List (Nat×Nat)):List (V×V):=aN.map λk=>(dR k,.int 1)
def knD (bI:List ((Nat×Nat)×Bool)):List (V×V):=bI.map λe=>(dR e.1,.bool e.2)
def bd8:List (Str×V):=[(S "tab",.ref 0),(S "deep",.int 0),(S "most_rounds",.int 200),(S "most_deep",.int 40),(S "lib",.none)]
structure RW (Y:H) (tb:List Row) (r:Nat) (rs:RS):Prop where
 T:TabAt Y tb
 host:Y[9]?=some (.inst 90 bd8)
 i:Y[r]?=some (.inst 110 (gN r rs))
 as_:Y[r+2]?=some (.dict (mV rs.aN))
 kn:Y[r+3]?=some (.dict (knD rs.bI))
 tr:Y[rs.tr]?=some (.list (rs.aN.map dR))
 no:Y[r+6]?=some (.inst 7 [(S "rows",.ref (r+7))])
 nr:Y[r+7]?=some (.list (rs.aU.map gQ))
 lo:10≤r
 tlo:10≤rs.tr
 t7:rs.tr≠r+7
 tnd:rs.aN.Nodup
 knd:(rs.bI.map (·.1)).Nodup
def i9 (r tr:Nat):Nat→Prop:=λn=>n=r∨n=r+2∨n=r+3∨n=r+7∨n=tr
section
variable {Y Y':H}{tb tb':List Row}{t n r:Nat}{rs:RS}{call:CT}
theorem ao9 {a b:Nat×Nat}(h:dR a=dR b):a=b:=by
 simp only[dR,V.tup.injEq,List.cons.injEq,V.int.injEq]at h;exact Prod.ext (by lia) (by lia)
theorem bd2 (k:Nat×Nat):kT (dR k)=true:=rfl
theorem ac9 (k:Nat×Nat)(tr:List (Nat×Nat)):bM (dR k) ((mV tr).map (·.1))=true:=by
 simp only[bM,bd2,Bool.true_and,Bool.or_eq_true];right;rw[List.all_eq_true];intro x hx;simp only[mV,List.map_map,List.mem_map]at hx;obtain⟨e,_,rfl⟩:=hx;rfl
theorem ac8 (k:Nat×Nat)(kn:List ((Nat×Nat)×Bool)):bM (dR k) ((knD kn).map (·.1))=true:=by
 simp only[bM,bd2,Bool.true_and,Bool.or_eq_true];right;rw[List.all_eq_true];intro x hx;simp only[knD,List.map_map,List.mem_map]at hx;obtain⟨e,_,rfl⟩:=hx;rfl
theorem ac7 (k:Nat×Nat):∀tr:List (Nat×Nat),dM (dR k) (mV tr)=if k∈tr then some (.int 1)else none:=by
 intro ll
 induction ll with
 | nil=>
  exact rfl
 | cons e tr ih=>
  simp only[mV,List.map_cons,f9];by_cases q:e=k
  ·subst q;simp
  ·rw[if_neg λh=>q (ao9 h)];have:=ih;simp only[mV]at this;rw[this];have q':¬k=e:=λh=>q h.symm;simp[List.mem_cons,q']
def eZ (k:Nat×Nat):List ((Nat×Nat)×Bool)→Option Bool
 | []=>none
 | e::r=>if e.1=k then some e.2 else eZ k r
theorem bk5 {k:Nat×Nat}:eZ k []=none:=rfl
theorem g7 {k:Nat×Nat}{e:(Nat×Nat)×Bool}{r:List ((Nat×Nat)×Bool)}:eZ k (e::r)=if e.1=k then some e.2 else eZ k r:=rfl
theorem aG9 (k:Nat×Nat):∀kn:List ((Nat×Nat)×Bool),dM (dR k) (knD kn)=(eZ k kn).map .bool:=by
 intro ll
 induction ll with
 | nil=>
  exact rfl
 | cons e kn ih=>
  simp only[knD,List.map_cons,f9,g7];by_cases q:e.1=k
  ·rw[if_pos (by rw[q]),if_pos q];rfl
  ·rw[if_neg λh=>q (ao9 h),if_neg q];exact ih
theorem aA8 {k:Nat×Nat}{b:Bool}:∀{kn:List ((Nat×Nat)×Bool)},eZ k kn=some b→(k,b)∈kn
 | e::kn,h=>by
  rw[g7]at h;by_cases q:e.1=k
  ·rw[if_pos q]at h;simp at h;subst h;subst q;exact zS
  ·rw[if_neg q]at h;exact zC _ (aA8 h)
theorem an1 {k:Nat×Nat}:∀{kn:List ((Nat×Nat)×Bool)},eZ k kn=none→k∉kn.map (·.1):=by
 intro ll
 induction ll with
 | nil=>
  intro _;simp
 | cons e kn ih=>
  intro h;rw[g7]at h;by_cases q:e.1=k
  ·rw[if_pos q]at h;cases h
  ·rw[if_neg q]at h;simp only[List.map_cons,List.mem_cons,not_or];exact⟨λc=>q c.symm,ih h⟩
theorem bs4 (k:Nat×Nat)(b:Bool)(kn:List ((Nat×Nat)×Bool))(h:eZ k kn=none):put (dR k) (.bool b) (knD kn)=knD (kn++[(k,b)]):=by
 rw[af7 (by rw[aG9,h];rfl)];simp[knD]
theorem bP7 (k:Nat×Nat)(tr:List (Nat×Nat))(h:k∉tr):put (dR k) (.int 1) (mV tr)=mV (tr++[k]):=by
 rw[af7 (by rw[ac7,if_neg h])];simp[mV]
theorem bJ4 (k:Nat×Nat):∀tr:List (Nat×Nat),k∉tr→drop (dR k) (mV (tr++[k]))=mV tr:=by
 intro ll
 induction ll with
 | nil=>
  intro _;show drop (dR k) ((dR k,.int 1)::[])=[];rw[oJ,if_pos rfl]
 | cons e tr ih=>
  intro h;simp only[List.mem_cons,not_or]at h;replace ih:=ih h.2;simp only[mV,List.cons_append,List.map_cons,oJ]at ih ⊢;rw[if_neg λc=>h.1 (ao9 c).symm,ih]
theorem by2 (k:Nat×Nat)(tr:List (Nat×Nat)):drop (dR k) (mV (k::tr))=mV tr:=by
 show drop (dR k) ((dR k,.int 1)::mV tr)=_;rw[oJ,if_pos rfl]
namespace RW
theorem aHost (W:RW Y tb r rs):aR (S "host") (.ref r) Y=some (.ref 9,Y):=bY W.i (by ext)
theorem aMode (W:RW Y tb r rs):aR (S "mode") (.ref r) Y=some (.int rs.aE,Y):=bY W.i (by ext)
theorem aAssumed (W:RW Y tb r rs):aR (S "assumed") (.ref r) Y=some (.ref (r+2),Y):=bY W.i (by ext)
theorem aKnown (W:RW Y tb r rs):aR (S "known") (.ref r) Y=some (.ref (r+3),Y):=bY W.i (by ext)
theorem aTrail (W:RW Y tb r rs):aR (S "trail") (.ref r) Y=some (.ref rs.tr,Y):=bY W.i (by ext)
theorem aDeep (W:RW Y tb r rs):aR (S "deep") (.ref r) Y=some (.int rs.bS,Y):=bY W.i (by ext)
theorem aLooks (W:RW Y tb r rs):aR (S "looks") (.ref r) Y=some (.int rs.a8,Y):=bY W.i (by ext)
theorem aNotes (W:RW Y tb r rs):aR (S "notes") (.ref r) Y=some (.ref (r+6),Y):=bY W.i (by ext)
theorem aTelling (W:RW Y tb r rs):aR (S "telling") (.ref r) Y=some (.bool true,Y):=bY W.i (by ext)
theorem aAt (W:RW Y tb r rs):aR (S "at") (.ref r) Y=some (.int 0,Y):=bY W.i (by ext)
theorem aTab (W:RW Y tb r rs):aR (S "tab") (.ref 9) Y=some (.ref 0,Y):=bY W.host (by ext)
theorem aRows (W:RW Y tb r rs):aR (S "rows") (.ref (r+6)) Y=some (.ref (r+7),Y):=bY W.no (by ext)
theorem mForce (W:RW Y tb r rs):bF (S "force") (.ref 9) Y=some (.py 90 2,Y):=jF W.host (by ext)
theorem mAsk (W:RW Y tb r rs):bF (S "ask") (.ref r) Y=some (.py 110 2,Y):=jF W.i (by ext)
theorem mNote (W:RW Y tb r rs):bF (S "note") (.ref r) Y=some (.py 110 3,Y):=jF W.i (by ext)
theorem mMark (W:RW Y tb r rs):bF (S "mark") (.ref r) Y=some (.py 110 5,Y):=jF W.i (by ext)
theorem mBack (W:RW Y tb r rs):bF (S "back") (.ref r) Y=some (.py 110 6,Y):=jF W.i (by ext)
theorem mPut (W:RW Y tb r rs):bF (S "put") (.ref (r+6)) Y=some (.py 7 2,Y):=jF W.no (by ext)
theorem frz (W:RW Y tb r rs):aA (.ref r) Y=some (.ref r,Y):=ao1 W.i
theorem frzHost (W:RW Y tb r rs):aA (.ref 9) Y=some (.ref 9,Y):=ao1 W.host
theorem ne (W:RW Y tb r rs):rs.tr≠r∧rs.tr≠r+2∧rs.tr≠r+3∧rs.tr≠r+6∧rs.tr≠r+7:=by
 have h:=W.tr;refine⟨λe=>?_,λe=>?_,λe=>?_,λe=>?_,W.t7⟩<;>rw[e]at h
 ·rw[W.i]at h;cases h
 ·rw[W.as_]at h;cases h
 ·rw[W.kn]at h;cases h
 ·rw[W.no]at h;cases h
theorem tab {P:Nat→Prop}(W:RW Y tb r rs)(F:Fr P Y Y')(hP:∀n,n < 10→¬P n):TabAt Y' tb:=W.T.fr F (hP 0 (by lia)) (hP 1 (by lia)) (hP 2 (by lia))
theorem setNotes (W:RW Y tb r rs)(ns:List Int):RW (Y.set (r+7) (.list (ns.map gQ))) tb r { rs with aU:=ns }:=by
 have F:Fr (λm=>m=r+7) Y (Y.set (r+7) (.list (ns.map gQ))):=Fr.set rfl;have hlo:=W.lo;refine⟨W.tab F λn h=>by lia,F.get W.host (by lia),F.get W.i (by lia),F.get W.as_ (by lia),F.get W.kn (by lia),F.get W.tr W.t7,F.get W.no (by lia),cS W.nr,W.lo,W.tlo,W.t7,W.tnd,W.knd⟩
theorem setLooks (W:RW Y tb r rs)(l d:Nat):RW (Y.set r (.inst 110 (gN r { rs with a8:=l,bS:=d }))) tb r { rs with a8:=l,bS:=d }:=by
 have F:Fr (λm=>m=r) Y (Y.set r (.inst 110 (gN r { rs with a8:=l,bS:=d }))):=Fr.set rfl;have hlo:=W.lo;exact⟨W.tab F λn h=>by lia,F.get W.host (by lia),cS W.i,F.get W.as_ (by lia),F.get W.kn (by lia),F.get W.tr W.ne.1,F.get W.no (by lia),F.get W.nr (by lia),W.lo,W.tlo,W.t7,W.tnd,W.knd⟩
theorem setTrail (W:RW Y tb r rs){tr:List (Nat×Nat)}(nd:tr.Nodup):RW ((Y.set (r+2) (.dict (mV tr))).set rs.tr (.list (tr.map dR))) tb r { rs with aN:=tr }:=by
 have F:Fr (λm=>m=r+2∨m=rs.tr) Y ((Y.set (r+2) (.dict (mV tr))).set rs.tr (.list (tr.map dR))):=(Fr.set (.inl rfl)).trans (Fr.set (.inr rfl));have hlo:=W.lo;have htl:=W.tlo;have hne:=W.ne;exact⟨W.tab F λn h=>by lia,F.get W.host (by lia),F.get W.i (by lia),cH (cS W.as_) hne.2.1,F.get W.kn (by lia),cS (cH W.tr (by lia)),F.get W.no (by lia),F.get W.nr (by lia),W.lo,W.tlo,W.t7,nd,W.knd⟩
theorem setKnown (W:RW Y tb r rs){kn:List ((Nat×Nat)×Bool)}(nd:(kn.map (·.1)).Nodup):RW (Y.set (r+3) (.dict (knD kn))) tb r { rs with bI:=kn }:=by
 have F:Fr (λm=>m=r+3) Y (Y.set (r+3) (.dict (knD kn))):=Fr.set rfl;have hlo:=W.lo;have hne:=W.ne;exact⟨W.tab F λn h=>by lia,F.get W.host (by lia),F.get W.i (by lia),F.get W.as_ (by lia),cS W.kn,F.get W.tr hne.2.2.1,F.get W.no (by lia),F.get W.nr (by lia),W.lo,W.tlo,W.t7,W.tnd,nd⟩
end RW
theorem bA0 (n:Nat)(W:RW Y tb r rs)(c:Int)(hl:rs.aU.length < 90000):aD (n+2) (.fn 110 3) [.ref r,.int c] Y=some (.none,Y.set (r+7) (.list ((rs.aU++[c]).map gQ))):=by
 rw[aw5];unfold al4 uE;rw[aC,st W.aTelling,st (bJ _),if_pos rfl,st W.aNotes,st W.mPut,eF,st (aH _),st W.aAt,eF,st (aH _)];have e:bD (aD (n+1)) (.py 7 2) (S "put") (.ref (r+6)) [.int c,.int 0] Y=some (.none,Y.set (r+7) (.list ((rs.aU++[c]).map gQ))):=by
  show aD (n+1) (.fn 7 2) [.ref (r+6),.int c,.int 0] Y=_;rw[al8];unfold zF;rw[st W.aRows,st (dV W.nr (by ext)),st (aH _),st (aH _),jR,st (lZ W.nr (by simp;lia))];simp[gQ,ret]
 rw[st e];rfl
theorem bA2 (n:Nat)(W:RW Y tb r rs):aD (n+1) (.fn 110 5) [.ref r] Y=some (.tup [.int rs.aU.length,.int rs.aN.length],Y):=by
 rw[aw6];unfold al5;rw[st W.aNotes,st W.aRows,st (len_list W.nr),st (aH _),st W.aTrail,st (len_list W.tr),st (aH _),iU];simp
theorem bs8 {xs:List V}{v:V}(h:Y[n]?=some (.list (xs++[v]))):bD call .li (S "pop") (.ref n) [] Y=some (v,Y.set n (.list xs)):=by
 have q:¬(S "pop"=S "reverse"):=by nofun
 show aA2 (S "pop") n Y=_;show aB (rdL n) (λxs=>if S "pop"=S "reverse" then aB (xJ n (.list xs.reverse)) λ_=>ret V.none else if S "pop"=S "pop" then aB (bL xs.getLast?) λv=>aB (xJ n (.list xs.dropLast)) λ_=>ret v else fail) Y=_;rw[st (o0 h),if_neg q,if_pos rfl,List.getLast?_concat,List.dropLast_concat];rfl
theorem bz2 (n:Nat){t0:List (Nat×Nat)}{m0:Int}:∀(m:Nat) {y:List (Nat×Nat)} {Y:H} {rs:RS} {ρ:LE},RW Y tb r rs→rs.aN=t0++y→y.length < m→rs.aN.length < 1000→ρ (S "rel")=some (.ref r)→ρ (S "spot")=some (.tup [.int m0,.int t0.length])→
  ∃Y',(∀k,oR (cP (aD n)) (fJ (aD n)) m ρ k Y=k ρ Y')∧RW Y' tb r { rs with aN:=t0 }∧Fr (i9 r rs.tr) Y Y':=by
 intro mm
 induction mm with
 | zero=>
  intro y Y rs ρ W h hm _ _ _;lia
 | succ m ih=>
  intro y Y rs ρ W h hm hl h1 h2;have eT:cP (aD n) ρ Y=some (decide (y≠[]),Y):=by
   unfold cP;rw[h1,h2,aF,st W.aTrail,st (len_list W.tr),aF,st (show aJ (.int 1) (.tup [.int m0,.int t0.length]) Y=some (.int t0.length,Y)from rfl),gt_int,h];congr 2;rw[Bool.eq_iff_iff,decide_eq_true_iff,decide_eq_true_iff];cases y with
   | nil=>simp
   | cons a y=>simp;lia
  have go:∀k,oR (cP (aD n)) (fJ (aD n)) (m+1) ρ k Y=(if decide (y≠[])then fJ (aD n) ρ (λρ'=>oR (cP (aD n)) (fJ (aD n)) m ρ' k)else k ρ) Y:=λk=>by
   show aB (cP (aD n) ρ) _ Y=_;rw[st eT]
  rcases List.eq_nil_or_concat y with rfl | ⟨y',k0,rfl⟩
  ·refine⟨Y,λk=>by rw[go];rfl,?_,Fr.rfl⟩;have:{ rs with aN:=t0 }=rs:=by rw[←show rs.aN=t0 by simpa using h]
   rw[this];exact W
  ·rw[List.concat_eq_append]at h hm go eT;have hnd:=W.tnd;rw[h]at hnd;rw[←List.append_assoc]at hnd;have hk:k0∉t0++y':=λc=>(List.nodup_append.mp hnd).2.2 k0 c k0 (by simp) rfl;have hnd':=(List.nodup_append.mp hnd).1;have htr:=W.tr;have has:=W.as_;rw[h,←List.append_assoc]at has;rw[h,←List.append_assoc,List.map_append]at htr;have hne:=W.ne;have has':(Y.set rs.tr (.list ((t0++y').map dR)))[r+2]?=some (.dict (mV (t0++y'++[k0]))):=cH has hne.2.1;have W2:=W.setTrail hnd';have hcomm:(Y.set rs.tr (.list ((t0++y').map dR))).set (r+2) (.dict (mV (t0++y')))=(Y.set (r+2) (.dict (mV (t0++y')))).set rs.tr (.list ((t0++y').map dR)):=List.set_comm _ _ hne.2.1;obtain⟨Y',e,W',F'⟩:=ih (ρ:=ρ) W2 (y:=y') rfl (by simp at hm;lia) (by simp[h]at hl ⊢;lia) h1 h2;have hlen:(mV (t0++y'++[k0])).length < 100000:=by simp[mV];simp[h]at hl;lia
   refine⟨Y',λk=>?_,W',?_⟩
   ·rw[go,if_pos (by simp)];unfold fJ;have ei:(dM (dR k0) (mV (t0++y'++[k0]))).isSome=true:=by rw[ac7];simp
    rw[h1,aF,st W.aAssumed,aF,st W.aTrail,st (dV W.tr (by ext)),st (bs8 htr),st (aQ9 has' (ac9 _ _) ei),bJ4 k0 _ hk,hcomm];exact e k
   ·have F0:Fr (i9 r rs.tr) Y ((Y.set (r+2) (.dict (mV (t0++y')))).set rs.tr (.list ((t0++y').map dR))):=(Fr.set (.inr (.inl rfl))).trans (Fr.set (.inr (.inr (.inr (.inr rfl)))))
    exact F0.trans F'
theorem aC6 {xs:List V}{i:Nat}(h:Y[n]?=some (.list xs))(hi:i≤xs.length):g9 i (.ref n) Y=some ((),Y.set n (.list (xs.take i))):=by
 have e:(decide (0≤(i:Int))&&decide ((i:Int)≤xs.length))=true:=by
  simp only[Bool.and_eq_true,decide_eq_true_eq];lia
 show aB (rdL n) (λxs=>aB (dD (decide (0≤(i:Int))&&decide ((i:Int)≤xs.length))) λ_=>xJ n (.list (xs.take (i:Int).toNat))) Y=_;rw[st (o0 h),e];rfl
theorem aZ8 (n:Nat)(W:RW Y tb r rs){n0:List Int}{t0:List (Nat×Nat)}{x:List Int}{y:List (Nat×Nat)}(hn:rs.aU=n0++x)(ht:rs.aN=t0++y)(hl:rs.aN.length < 1000) :
  ∃Y',aD (n+1) (.fn 114 0) [.ref r,.tup [.int n0.length,.int t0.length]] Y=some (.none,Y')∧RW Y' tb r { rs with aU:=n0,aN:=t0 }∧Fr (i9 r rs.tr) Y Y':=by
 refine Mine.Internal.Fl.go1 λΦ ret0=>?_;rw[uC];unfold uT;rw[st W.aNotes,st W.aRows,st (show aJ (.int 0) (.tup [.int n0.length,.int t0.length]) Y=some (.int n0.length,Y)from rfl),show cA (.int n0.length)=some (n0.length:Int)from rfl,aF];rw[st (aC6 W.nr (by rw[hn];simp))];have e1:(rs.aU.map gQ).take n0.length=n0.map gQ:=by rw[hn,List.map_append,List.take_left' (by simp)]
 rw[e1];have W1:=W.setNotes n0;obtain⟨Y',e,W',F'⟩:=bz2 n 1000 (ρ:=upd (upd e0 (S "rel") (.ref r)) (S "spot") (.tup [.int n0.length,.int t0.length])) W1 ht (by rw[ht]at hl;simp at hl;lia) hl (by rw[aI (by nofun),bE]) bE;rw[e];exact ret0 _ ⟨Y',rfl,W',(Fr.set (.inr (.inr (.inr (.inl rfl))))).trans F'⟩
theorem bk2 {kn:List ((Nat×Nat)×Bool)}{tr:List (Nat×Nat)}{b:Bool}(h1:(kn.map (·.1)).Nodup)(h2:tr.Nodup)(hk:∀k∈tr,eZ k kn=none):((kn++(if b then tr.map λk=>(k,true)else[])).map (·.1)).Nodup:=by
 cases b
 ·rw[if_neg (by simp),List.append_nil];exact h1
 ·rw[if_pos rfl,List.map_append,List.nodup_append,List.map_map];refine⟨h1,?_,?_⟩
  ·rw[show((λx:(Nat×Nat)×Bool=>x.1) ∘ λk=>(k,true))=(id:Nat×Nat→Nat×Nat)from rfl,List.map_id];exact h2
  ·intro a ha c hc e;obtain⟨k,hk',q⟩:=zM hc;exact an1 (hk k hk') (by rw[e,←q]at ha;exact ha)
theorem bK5 (n:Nat)(W:RW Y tb r rs)(b:Bool)(hk:∀k∈rs.aN,eZ k rs.bI=none)(hl:rs.bI.length+rs.aN.length < 90000) :
  ∃tr' Y',aD (n+1) (.fn 118 0) [.ref r,.bool b] Y=some (.none,Y')∧RW Y' tb r { rs with aN:=[],tr:=tr',bI:=rs.bI++(if b then rs.aN.map λk=>(k,true)else[]) }∧Fr (i9 r rs.tr) Y Y'∧Y.length≤tr':=by
 refine Mine.Internal.Fl.go2 λΦ ret0=>?_;rw[x8];unfold uD;rw[st W.aTrail,st (n9 W.tr)];have hne:=W.ne;have hlo:=W.lo;have htl:=W.tlo;have kdj:∀(done l:List (Nat×Nat)),rs.aN=done++l→∀k∈l,eZ k (rs.bI++(if b then done.map λk=>(k,true)else[]))=none:=by
  intro done l e k hkl;have h1:eZ k rs.bI=none:=hk k (by rw[e];exact List.mem_append_right _ hkl);have hnd:=W.tnd;rw[e]at hnd;have h2:k∉done:=λc=>(List.nodup_append.mp hnd).2.2 k c k hkl rfl;have app:∀(a c:List ((Nat×Nat)×Bool)),eZ k a=none→eZ k c=none→eZ k (a++c)=none:=by
   intro a
   induction a with
   | nil=>intro c _ h;exact h
   | cons x a ih=>
    intro c h h';rw[List.cons_append];rw[g7]at h ⊢;by_cases q:x.1=k
    ·rw[if_pos q]at h;cases h
    ·rw[if_neg q]at h ⊢;exact ih c h h'
  refine app _ _ h1 ?_;cases b
  ·rfl
  ·have:∀d:List (Nat×Nat),k∉d→eZ k (d.map λk=>(k,true))=none:=by
    intro d
    induction d with
    | nil=>intro _;rfl
    | cons x d ih=>
     intro h;simp only[List.mem_cons,not_or]at h;simp only[List.map_cons,g7];rw[if_neg λc=>h.1 c.symm,ih h.2]
   exact this done h2
 obtain⟨ρ',Y1,⟨done,e1,e2,e3,F1,h1,h2⟩,e⟩:=aH8 (enc:=dR) (w:=still (rs.aN.map dR) (aP (.ref rs.tr))) (f:=f8 (aD n))
  (λl ρ Y1=>∃done,rs.aN=done++l∧Y1[r+2]?=some (.dict (mV l))∧Y1[r+3]?=some (.dict (knD (rs.bI++(if b then done.map λk=>(k,true)else[]))))∧Fr (λm=>m=r+2∨m=r+3) Y Y1∧
   ρ (S "rel")=some (.ref r)∧ρ (S "clean")=some (.bool b))
  (λl ρ Y1 hI=>by
   obtain⟨_,_,_,_,F1,_,_⟩:=hI;exact lC (F1.get W.tr (by lia)))
  (λk0 l ρ Y1 hI=>by
   obtain⟨done,e1,e2,e3,F1,h1,h2⟩:=hI;have hi:=F1.get W.i (by lia);have hnone:=kdj done (k0::l) e1 k0 zS;have elook:(dM (dR k0) (mV (k0::l))).isSome=true:=by rw[ac7];simp
   have hlen:done.length≤rs.aN.length:=by rw[e1];simp
   have e3':(Y1.set (r+2) (.dict (mV l)))[r+3]?=some (.dict (knD (rs.bI++(if b then done.map λk=>(k,true)else[])))):=cH e3 (by lia);have hi':(Y1.set (r+2) (.dict (mV l)))[r]?=some (.inst 110 (gN r rs)):=cH hi (by lia);have go:∀k,f8 (aD n) (dR k0) ρ k Y1=(if b then aB (b7 (dR k0) (.bool true) (.ref (r+3))) (λ_=>k (upd ρ (S "key") (dR k0)))else k (upd ρ (S "key") (dR k0))) (Y1.set (r+2) (.dict (mV l))):=λk=>by
    unfold f8;rw[h1,aF,st (bY hi (v:=.ref (r+2)) (by ext)),st (aQ9 e2 (ac9 _ _) elook),by2];unfold n3;rw[h2,aF,st (bJ _)];cases b
    ·rfl
    ·rw[if_pos rfl,if_pos rfl,aF,st (bY hi' (v:=.ref (r+3)) (by ext))]
   cases hb:b with
   | false=>
    subst hb;refine⟨upd ρ (S "key") (dR k0),Y1.set (r+2) (.dict (mV l)),⟨done++[k0],by simp[e1],cS e2,e3',F1.trans (Fr.set (.inl rfl)),by rw[aI (by nofun)];exact h1,by rw[aI (by nofun)];exact h2⟩,λk=>?_⟩;rw[go];rfl
   | true=>
    subst hb;simp only[if_true]at hnone e3' e3;refine⟨upd ρ (S "key") (dR k0),(Y1.set (r+2) (.dict (mV l))).set (r+3) (.dict (knD (rs.bI++(done++[k0]).map λk=>(k,true)))),⟨done++[k0],by simp[e1],cH (cS e2) (by lia),cS e3',(F1.trans (Fr.set (.inl rfl))).trans (Fr.set (.inr rfl)),by rw[aI (by nofun)];exact h1,by rw[aI (by nofun)];exact h2⟩,λk=>?_⟩;rw[go,if_pos rfl,st (gL e3' (ac8 _ _) (by simp[knD];lia)),bs4 _ _ _ hnone,List.append_assoc];simp) rs.aN (upd (upd e0 (S "rel") (.ref r)) (S "clean") (.bool b)) Y
  ⟨[],rfl,W.as_,by simpa using W.kn,Fr.rfl,by rw[aI (by nofun),bE],bE⟩
 rw[e];unfold n6;have hi:=F1.get W.i (by lia);have hi':(Y1++[O.list []])[r]?=some (.inst 110 (gN r rs)):=(Fr.app (P:=No)).get hi id;have hset:=qJ (x:=S "trail") (v:=.ref Y1.length) hi' (by ext);have hput:mZ (S "trail") (.ref Y1.length) (gN r rs)=gN r { rs with aN:=[],tr:=Y1.length,bI:=rs.bI++(if b then rs.aN.map λk=>(k,true)else[]) }:=by ext
 rw[hput]at hset;rw[st gS,h1,aF,st hset];have hd:done=rs.aN:=by simpa using e1.symm
 subst hd;have hrl:=lV hi;have FA:Fr (λm=>m=r+2∨m=r+3∨m=r) Y ((Y1++[O.list []]).set r (.inst 110 (gN r { rs with aN:=[],tr:=Y1.length,bI:=rs.bI++(if b then rs.aN.map λk=>(k,true)else[]) }))):=
  ((F1.mono λm h=>by lia).trans Fr.app).trans (Fr.set (.inr (.inr rfl)))
 have old:∀{m o},Y1[m]?=some o→m≠r→((Y1++[O.list []]).set r (.inst 110 (gN r { rs with aN:=[],tr:=Y1.length,bI:=rs.bI++(if b then rs.aN.map λk=>(k,true)else[]) })))[m]?=some o:=λh q=>
  cH ((Fr.app (P:=No)).get h id) λc=>q c.symm
 have hl7:=lV (F1.get W.nr (by lia));refine ret0 _ ⟨Y1.length,_,rfl,⟨W.tab FA λm h=>by lia,FA.get W.host (by lia),cS hi',old e2 (by lia),old e3 (by lia),cH k9 (by show r≠Y1.length;lia),FA.get W.no (by lia),FA.get W.nr (by lia),W.lo,?_,?_,List.nodup_nil,?_⟩,FA.mono λm h=>by unfold i9;lia,F1.1⟩
 ·show 10≤Y1.length;lia
 ·show Y1.length≠r+7;lia
 ·show((rs.bI++(if b then rs.aN.map λk=>(k,true)else[])).map (·.1)).Nodup;exact bk2 W.knd W.tnd hk
end
def nset (Y:H)(r:Nat)(rs:RS)(ns:List Int):H:=Y.set (r+7) (.list ((rs.aU++ns).map gQ))
section
variable {Y Y':H}{tb tb':List Row}{t n r:Nat}{rs:RS}{call:CT}
theorem c7 (W:RW Y tb r rs):nset Y r rs []=Y:=by
 unfold nset;rw[List.append_nil];exact qI W.nr
theorem RW.nset (W:RW Y tb r rs)(ns:List Int):RW (nset Y r rs ns) tb r { rs with aU:=rs.aU++ns }:=W.setNotes _
theorem aG3 (W:RW Y tb r rs)(ns:List Int):Fr (i9 r rs.tr) Y (nset Y r rs ns):=Fr.set (.inr (.inr (.inr (.inl rfl))))
theorem aB5 (T:TbOk tb){s:Nat}{a:Row}(ha:tb[s]?=some a)(i:Nat)(x:U)(h:first[i]?=some (.u x)):decide ((s:Int)=i)=decide (a=.u x):=by
 rw[Bool.eq_iff_iff,decide_eq_true_iff,decide_eq_true_iff];have:=gR T h (t:=s);rw[ha]at this;simp only[Option.some.injEq]at this;rw[this];lia
theorem d0 (a:Row):aJ (.int 0) (cB a) Y=some (.int (jX a),Y):=by
 cases a with
 | u x=>apply gF x;ext
 | un ps=>ext
theorem aA4 (W:RW Y tb r rs){s:Nat}{a:Row}(ha:tb[s]?=some a){α:Type}(k:V→M α) :
  (aB (aR (S "host") (.ref r)) λv1=>aB (aR (S "tab") v1) λv2=>aB (aR (S "rows") v2) λv3=>aB (aJ (.int s) v3) λv4=>aB (aJ (.int 0) v4) k) Y=k (.int (jX a)) Y:=by
 rw[st W.aHost,st W.aTab,st W.T.rows,st (W.T.item ha),st (d0 a)]
theorem bn9 (n:Nat)(W:RW Y tb r rs){b:Row}(hb:tb[t]?=some b)(h11:11∉cN tb t):aD (n+2) (.fn 122 0) [.ref r,.int t] Y=some (.int 0,Y):=by
 rw[vO];unfold qO;have e1:iC (aD (n+1)) (.ref r) (.int t) Y=some (false,Y):=by
  unfold iC;rw[aA4 W hb,show(V.tup [(.int 10),(.int 14),(.int 15),(.int 16),(.int 17),(.int 18),(.int 19)])=.tup (([10,14,15,16,17,18,19]:List Int).map V.int)from rfl,kZ];congr 2;cases b with
  | u x=>apply gF x;ext
  | un ps=>rfl
 rw[st e1,if_neg (by simp),st W.aHost,st W.aTab,st W.T.frz,st (aH _),st (iY n W.T hb)];have e2:iB (aD (n+1)) (.ref r) Y=some (decide (rs.aE=4),Y):=by
  unfold iB;rw[st W.aMode,aW]
 rw[st e2];split
 ·rfl
 ·have e3:aK .In (.int 11) (.tup (bQ (cN tb t))) Y=some (false,Y):=by
   rw[uX,show inJ 11 (cN tb t)=decide (11∈cN tb t)from ad0 11 _];simp[h11]
  rw[st (show(aB (aB (aK .In (.int 11) (.tup (bQ (cN tb t)))) λb14=>bV .And b14 (aB (aK .In (.int 5) (.tup (bQ (cN tb t)))) λb15=>bV .And b15 (aB (aK .In (.int 4) (.tup (bQ (cN tb t)))) λb16=>bV .And b16 (ret true) (ret b16)) (ret b15)) (ret b14)) λc17=>
   if c17 then(ret (V.int 1))else(ret (V.int 0))) Y=some (.int 0,Y)from by rw[aC,st e3];rfl)]
  rfl
def zK:Row→Bool | .un _=>true | _=>false
def fR (aE:Int)(a b:Row):Int×List Int:=
 if decide (b=.u .any)||(decide (b=.u .err)||(decide (a=.u .nev)||decide (a=.u .err)))then(1,[])
 else if decide (a=.u .any)&&decide (aE=4)then(0,[])
 else if decide (b=.u .unk)then(1,[])
 else if decide (a=.u .any)then(if decide (b=.u .nev)then(0,[])else(1,[1]))
 else if decide (a=.u .unk)then(0,[])
 else if decide (b=.u .nev)&&!zK a then(0,[])else(-1,[])
theorem bU1 (n:Nat)(W:RW Y tb r rs){s:Nat}{a b:Row}(ha:tb[s]?=some a)(hb:tb[t]?=some b)(h11:11∉cN tb t)(hl:rs.aU.length < 90000) :
  aD (n+3) (.fn 121 0) [.ref r,.int s,.int t] Y=some (.int (fR rs.aE a b).1,nset Y r rs (fR rs.aE a b).2):=by
 rw[vS];unfold qT fR;have eqs:∀(j:Int) (i:Nat) (x:U),j=i→first[i]?=some (.u x)→aK .Eq (.int s) (.int j) Y=some (decide (a=.u x),Y):=λj i x hj h=>by rw[aW,hj,aB5 W.T.ok ha i x h]
 have eqt:∀(j:Int) (i:Nat) (x:U),j=i→first[i]?=some (.u x)→aK .Eq (.int t) (.int j) Y=some (decide (b=.u x),Y):=λj i x hj h=>by rw[aW,hj,aB5 W.T.ok hb i x h]
 have eT:mF (aD (n+2)) (.int t) (.int s) Y=some (decide (b=.u .any)||(decide (b=.u .err)||(decide (a=.u .nev)||decide (a=.u .err))),Y):=
  oX (eqt 0 0 .any rfl rfl) λ_=>oX (eqt 13 13 .err rfl rfl) λ_=>oX (eqs 2 2 .nev rfl rfl) λ_=>l9 (eqs 13 13 .err rfl rfl)
 have n0:=c7 W;rw[st eT];split
 ·rw[aH,n0]
 ·have eT2:mE (aD (n+2)) (.int s) (.ref r) Y=some (decide (a=.u .any)&&decide (rs.aE=4),Y):=
   mA (eqs 0 0 .any rfl rfl) λ_=>j1 (by rw[st W.aMode,aW])
  rw[st eT2];split
  ·rw[aH,n0]
  ·rw[st (eqt 1 1 .unk rfl rfl)];split
   ·rw[aH,n0]
   ·rw[st (eqs 0 0 .any rfl rfl)];split
    ·rw[st (eqt 2 2 .nev rfl rfl)];split
     ·rw[aH,n0]
     ·rw[st W.mNote,eF,st (aH _),st (show bD (aD (n+2)) (.py 110 3) (S "note") (.ref r) [.int 1] Y=_ from bA0 n W 1 hl)];rfl
    ·rw[st (eqs 1 1 .unk rfl rfl)];split
     ·rw[st W.frz,st (aH _),st (bn9 n W hb h11),aH,n0]
     ·have eT3:mD (aD (n+2)) (.int t) (.ref r) (.int s) Y=some (decide (b=.u .nev)&&!zK a,Y):=by
       refine mA (eqt 2 2 .nev rfl rfl) λ_=>j1 ?_;rw[aA4 W ha,show(V.tup [(.int 6),(.int 7),(.int 10),(.int 14),(.int 15),(.int 16),(.int 17),(.int 18),(.int 19)])=.tup (([6,7,10,14,15,16,17,18,19]:List Int).map V.int)from rfl,am1];congr 2;cases a with
       | u x=>apply gF x;ext
       | un ps=>rfl
      rw[st eT3];split<;>rw[aH,n0]
def eqP (x y:V):Bool:=PyData.eqv (pd x) (pd y)
theorem yM {x y:V}(hx:dO 9 x=true)(hy:dO 9 y=true):aK .Eq x y Y=some (eqP x y,Y):=by
 show bL (eqv x y) Y=_;unfold eqv;rw[hx,hy];rfl
theorem bc0 (a:U):aJ (.int 1) (cB (.u a)) Y=some (fN a 1,Y):=by apply gF a;ext
theorem bb9 (a:U)(h:cL a=5):aJ (.int 3) (cB (.u a)) Y=some (fN a 3,Y):=by apply iS (p:=λa=>cL a=5) a (decide_eq_true h);ext
theorem be7 (a:U):dO 9 (fN a 1)=true:=by apply gF a;ext
theorem be6 (a:U):dO 9 (fN a 3)=true:=by apply gF a;ext
def bF8 (b:U):Bool:=decide (cL b=5)&&decide (d6 b=7)
def bi8 (aE:Int)(a b:U):Int×List Int:=
 if decide (aE=4)||!bF8 b then(0,[])else if decide (a=.num)||(decide (cL a=4)&&eqP (fN a 1) (fN b 3))then(1,[10])else(0,[])
theorem bU6 (n:Nat)(b:U):aD (n+2) (.fn 123 0) [cB (.u b)] Y=some (.bool (bF8 b),Y):=by
 rw[rG];unfold mP;rw[st (aJ7 (p:=decide (cL b=5)) (q:=decide (d6 b=7)) (by rw[st (d0 (.u b)),aW];rfl) λ_=>by rw[aC,st (fB _),aC,st (lA n (.u b) Y),st aW];rfl)];rfl
theorem bZ7 (n:Nat)(W:RW Y tb r rs){s:Nat}{a b:U}(ha:tb[s]?=some (.u a))(hl:rs.aU.length < 90000) :
  aD (n+3) (.fn 125 0) [.ref r,.int s,cB (.u a),cB (.u b)] Y=some (.int (bi8 rs.aE a b).1,nset Y r rs (bi8 rs.aE a b).2):=by
 rw[tD];unfold nY bi8;have n0:=c7 W;have eT:kN (aD (n+2)) (.ref r) (cB (.u b)) Y=some (decide (rs.aE=4)||!bF8 b,Y):=
  oX (by rw[st W.aMode,aW]) λ_=>l9 (aK2 (by rw[st (fB _),st (bU6 n b),bJ]))
 rw[st eT];split
 ·rw[aH,n0]
 ·rename_i hq;have h5:cL b=5:=by
   simp only[Bool.or_eq_true,Bool.not_eq_true',not_or,Bool.not_eq_false,bF8,Bool.and_eq_true,decide_eq_true_eq]at hq;exact hq.2.1
  have eT2:kM (aD (n+2)) (.int s) (cB (.u a)) (cB (.u b)) Y=some (decide (a=.num)||(decide (cL a=4)&&eqP (fN a 1) (fN b 3)),Y):=by
   refine oX (by rw[aW];exact congrArg (λx=>some (x,Y)) (cR W.T.ok ha 7 .num rfl)) λ_=>l9 (mA (by rw[st (d0 (.u a)),aW];rfl) λ_=>j1 ?_);rw[st (bc0 a),st (bb9 b h5),yM (be7 a) (be6 b)]
  rw[st eT2];split
  ·rw[st W.mNote,eF,st (aH _),st (show bD (aD (n+2)) (.py 110 3) (S "note") (.ref r) [.int 10] Y=_ from bA0 n W 10 hl)];rfl
  ·rw[aH,n0]
def c9 (aE:Int)(a b:U):Int×List Int:=
 if decide (a=.und)then(if decide (b=.void)then(1,[])else(0,[]))
 else if decide (wU a=some b)then(1,[])
 else if decide (aE=2)&&decide (wU b=some a)then(1,[])
 else if decide (cL a=5)&&(decide (cL b=5)&&eqP (fN a 1) (fN b 1))then(if eqP (fN a 3) (fN b 3)then(1,[])else(0,[]))
 else if decide (cL a=5)then(if decide (cL b=3∨cL b=4)&&(decide (d6 b=d6 a)&&eqP (fN b 1) (fN a 3))then(1,[])else(0,[]))
 else bi8 aE a b
theorem bz6 (n:Nat)(W:RW Y tb r rs){s:Nat}{a b:U}(ha:tb[s]?=some (.u a))(hb:tb[t]?=some (.u b))(hl:rs.aU.length < 90000) :
  aD (n+4) (.fn 124 0) [.ref r,.int s,.int t] Y=some (.int (c9 rs.aE a b).1,nset Y r rs (c9 rs.aE a b).2):=by
 rw[sV];unfold nQ c9;have n0:=c7 W;have eqs:∀(j:Int) (i:Nat) (x:U),j=i→first[i]?=some (.u x)→aK .Eq (.int s) (.int j) Y=some (decide (a=x),Y):=λj i x hj h=>by rw[aW,hj,cR W.T.ok ha i x h]
 have eqt:∀(j:Int) (i:Nat) (x:U),j=i→first[i]?=some (.u x)→aK .Eq (.int t) (.int j) Y=some (decide (b=x),Y):=λj i x hj h=>by rw[aW,hj,cR W.T.ok hb i x h]
 rw[st (eqs 4 4 .und rfl rfl)];split
 ·rw[aC,st (eqt 3 3 .void rfl rfl)];cases decide (b=.void)
  ·rw[if_neg (by simp),if_neg (by simp),cM,aH,n0]
  ·rw[if_pos rfl,if_pos rfl,cM,aH,n0]
 ·rw[st W.aHost,st W.aTab,st W.T.rows,st (W.T.item ha),st W.aHost,st W.aTab,st W.T.rows,st (W.T.item hb)];have e1:kK (aD (n+3)) (cB (.u a)) (.int t) Y=some (decide (wU a=some b),Y):=by
   have e0:(aB (aA (cB (.u a))) λf12=>aB (aD (n+3) (.fn 67 0) [f12]) λv13=>aK .Eq v13 (.int t)) Y=some (decide (wU a=some b),Y):=by
    rw[st (fB _),st (lA _ (.u a) Y),aW];exact congrArg (λx=>some (x,Y)) (ad8 W.T.ok a hb)
   rw[←Bool.and_true (decide (wU a=some b))];refine mA e0 λhq=>j1 (p:=true) (by
    rw[st (fB _),st (lA _ (.u a) Y),ge_int];have:wU a=some b:=by simpa using hq
    rcases ac3 a with⟨h,e⟩ | ⟨h,e⟩ | ⟨h,e⟩
    ·rw[h]at this;cases this
    ·show some (decide (d6 a ≥ 0),Y)=_;rw[e];rfl
    ·show some (decide (d6 a ≥ 0),Y)=_;rw[e];rfl)
  rw[st e1];split
  ·rw[aH,n0]
  ·have e2:kJ (aD (n+3)) (.ref r) (cB (.u b)) (.int s) Y=some (decide (rs.aE=2)&&decide (wU b=some a),Y):=
    mA (by rw[st W.aMode,aW]) λ_=>j1 (by
     rw[st (fB _),st (lA _ (.u b) Y),aW];exact congrArg (λx=>some (x,Y)) (ad8 W.T.ok b ha))
   rw[st e2];split
   ·rw[aH,n0]
   ·have e3:kH (aD (n+3)) (cB (.u a)) (cB (.u b)) Y=some (decide (cL a=5)&&(decide (cL b=5)&&eqP (fN a 1) (fN b 1)),Y):=
     mA (by rw[st (d0 (.u a)),aW];rfl) λ_=>mA (by rw[st (d0 (.u b)),aW];rfl) λ_=>j1 (by rw[st (bc0 a),st (bc0 b),yM (be7 a) (be7 b)])
    rw[st e3];split
    ·rename_i hq;simp only[Bool.and_eq_true,decide_eq_true_eq]at hq;rw[aC,aC,st (bb9 a hq.1),aC,st (bb9 b hq.2.1),st (yM (be6 a) (be6 b))];cases eqP (fN a 3) (fN b 3)
     ·rw[if_neg (by simp),if_neg (by simp),cM,aH,n0]
     ·rw[if_pos rfl,if_pos rfl,cM,aH,n0]
    ·have e4:gG (aD (n+3)) (cB (.u a)) Y=some (decide (cL a=5),Y):=by
      unfold gG;rw[st (d0 (.u a)),aW];rfl
     rw[st e4];split
     ·rename_i _ h5;have h5':cL a=5:=by simpa using h5
      have e5:(aB (aB (aJ (.int 0) (cB (.u b))) λv39=>aB (aA (.int 3)) λf40=>aB (aA (.int 4)) λf41=>aK .In v39 (.tup [f40,f41])) λb42=>
        bV .And b42 (aB (aB (aA (cB (.u b))) λf43=>aB (aD (n+3) (.fn 67 0) [f43]) λv44=>aB (aA (cB (.u a))) λf45=>aB (aD (n+3) (.fn 67 0) [f45]) λv46=>aK .Eq v44 v46) λb47=>
        bV .And b47 (aB (aB (aJ (.int 1) (cB (.u b))) λv48=>aB (aJ (.int 3) (cB (.u a))) λv49=>aK .Eq v48 v49) λb50=>bV .And b50 (ret true) (ret b50)) (ret b47)) (ret b42)) Y =
        some (decide (cL b=3∨cL b=4)&&(decide (d6 b=d6 a)&&eqP (fN b 1) (fN a 3)),Y):=by
       refine mA ?_ λ_=>mA ?_ λ_=>j1 ?_
       ·rw[st (d0 (.u b)),st (aH _),st (aH _),show(V.tup [.int 3,.int 4])=.tup (([3,4]:List Int).map V.int)from rfl,kZ];congr 2;rw[Bool.eq_iff_iff,decide_eq_true_iff,decide_eq_true_iff];simp[jX]
       ·rw[st (fB _),st (lA _ (.u b) Y),st (fB _),st (lA _ (.u a) Y),aW];rfl
       ·rw[st (bc0 b),st (bb9 a h5'),yM (be7 b) (be6 a)]
      rw[aC,st e5];cases (decide (cL b=3∨cL b=4)&&(decide (d6 b=d6 a)&&eqP (fN b 1) (fN a 3)))
      ·rw[if_neg (by simp),if_neg (by simp),cM,aH,n0]
      ·rw[if_pos rfl,if_pos rfl,cM,aH,n0]
     ·rw[st W.frz,st (aH _),st (fB _),st (fB _),st (bZ7 n W ha hl),aH]
end
section
variable {Y Y':H}{tb tb':List Row}{t n r:Nat}{rs:RS}{call:CT}
def dP (aE:Int)(a b:Row):Int×List Int:=
 if(fR aE a b).1 ≥ 0 then fR aE a b else match a,b with
  | .u x,.u y=>if y=.obj then(0,[])else c9 aE x y
  | _,_=>(-1,[])
def rH:Row→Bool | .u x=>x != .emp | .un _=>true
theorem bk9 {α:Type}{G:α→Prop}{c:Prop} [Decidable c] {x y:α}(h1:G x)(h2:G y):G (if c then x else y):=by split<;>assumption
def VT (p:Int×List Int):Prop:=p.1=0∧p.2=[]∨p.1=1∨p=(-1,[])
def VG (p:Int×List Int):Prop:=p.1=0∧p.2=[]∨p.1=1
def VL {α:Type}(p:α×List Int):Prop:=p.2.length≤1
theorem ae2 (aE:Int)(a b:Row):(fR aE a b).1=0∧(fR aE a b).2=[]∨(fR aE a b).1=1∨fR aE a b=(-1,[]):=by
 refine(?_:VT (fR aE a b));unfold fR
 repeat' refine bk9 (G:=VT) ?_ ?_
 all_goals first | exact .inl ⟨rfl,rfl⟩ | exact .inr (.inl rfl) | exact .inr (.inr rfl)
theorem bq0 {aE:Int}{a b:Row}(h:¬(fR aE a b).1 ≥ 0):fR aE a b=(-1,[]):=by
 rcases ae2 aE a b with e | e | e
 ·exact absurd (by rw[e.1];decide) h
 ·exact absurd (by rw[e];decide) h
 ·exact e
theorem oK (n:Nat)(W:RW Y tb r rs){s:Nat}{a b:Row}(ha:tb[s]?=some a)(hb:tb[t]?=some b)(oa:rH a=true)(ob:rH b=true)(h11:11∉cN tb t)(hl:rs.aU.length < 90000) :
  aD (n+5) (.fn 120 0) [.ref r,.int s,.int t] Y=some (.int (dP rs.aE a b).1,nset Y r rs (dP rs.aE a b).2):=by
 rw[tB];unfold nR dP;have n0:=c7 W;rw[st W.frz,st (aH _),st (aH _),st (bU1 (n+1) W ha hb h11 hl),st ge_int];by_cases q:(fR rs.aE a b).1 ≥ 0
 ·rw[if_pos (decide_eq_true q),if_pos q,aH]
 ·rw[if_neg (by simpa using q),if_neg q,bq0 q,n0,st W.aHost,st W.aTab,st W.T.rows,st (W.T.item ha),st (d0 a),st (W.T.item hb),st (d0 b)];have eo:∀{c:Row},rH c=true→decide (jX c∈([6,7,10,14,15,16,17,18,19]:List Int))=zK c:=λ{c} h=>by
   cases c with
   | u x=>apply iS (p:=λx=>rH (.u x)) x h;ext
   | un ps=>rfl
  have eT:kL (aD (n+4)) (.int (jX a)) (.int (jX b)) Y=some (zK a||zK b,Y):=by
   refine oX ?_ λ_=>l9 ?_
   ·rw[←eo oa];exact kZ [6,7,10,14,15,16,17,18,19]
   ·rw[←eo ob];exact kZ [6,7,10,14,15,16,17,18,19]
  rw[st eT];cases a with
  | un ps=>rw[if_pos (by rfl),aH];exact congrArg (λx=>some (V.int (-1),x)) n0.symm
  | u x=>
   cases b with
   | un ps=>rw[if_pos (by rfl),aH];exact congrArg (λx=>some (V.int (-1),x)) n0.symm
   | u y=>
    rw[if_neg (by simp[zK]),st aW,show decide ((t:Int)=10)=decide (y=.obj)from cR W.T.ok hb 10 .obj rfl];have ev:∀{x:U},rH (.u x)=true→aK .In (.int (jX (.u x))) (.tup [(.int 1),(.int 2),(.int 3),(.int 4),(.int 5)]) Y=some (true,Y):=λ{x} h=>by
     refine Eq.trans (kZ [1,2,3,4,5]) ?_;congr 2;apply iS (p:=λx=>rH (.u x)) x h;ext
    by_cases qo:y=.obj
    ·rw[if_pos (decide_eq_true qo),aC,st (ev oa),if_pos rfl,cM,aH];show some (V.int 0,Y)=some (V.int (if y=.obj then((0:Int),([]:List Int))else c9 rs.aE x y).1,nset Y r rs (if y=.obj then((0:Int),([]:List Int))else c9 rs.aE x y).2);rw[if_pos qo,n0]
    ·rw[if_neg (by simpa using qo),st (ev ob),if_pos rfl,aC,st (ev oa),if_pos rfl,aC,st W.frz,aC,st (aH _),aC,st (aH _),aC,st (bz6 n W ha hb hl),cM,aH];show _=some (V.int (if y=.obj then((0:Int),([]:List Int))else c9 rs.aE x y).1,nset Y r rs (if y=.obj then((0:Int),([]:List Int))else c9 rs.aE x y).2);rw[if_neg qo]
theorem lF (n:Nat)(W:RW Y tb r rs){b:Row}(hb:tb[t]?=some b)(hreg:mY b∈tb)(hl:tb.length < 80000) :
  ∃t':Nat,aD (n+3) (.fn 115 0) [.ref 9,.int t] Y=some (.int t',Y)∧tb[t']?=some (mY b):=by
 rw[aF3];unfold az7;have ef:bD (aD (n+2)) (.py 90 2) (S "force") (.ref 9) [.int t] Y=some (.int t,Y):=by
  show aD (n+2) (.fn 90 2) [.ref 9,.int t] Y=_;rw[ab7];rfl
 have eT:o8 (aD (n+2)) (.ref 9) (.int t) Y=some (bG5 b,Y):=by
  unfold o8;rw[st W.aTab,st W.T.frz,st (aH _),st (bZ8 (n+1) W.T hb),bJ]
 rw[st W.mForce,eF,st (aH _),st ef,st eT];cases q:bG5 b with
 | true=>
  obtain⟨t',tb',Y',e,a,b',c⟩:=jS n W.T hb (by lia);obtain⟨rfl,rfl⟩:=c hreg;rw[if_pos rfl,st W.aTab,st W.T.frz,st (aH _),st e];exact⟨t',rfl,b'⟩
 | false=>
  have:mY b=b:=by
   cases b with
   | u x=>apply iS (p:=λx=>!bG5 (.u x)) x (by rw[q];rfl);ext
   | un ps=>rfl
  exact⟨t,rfl,by rw[this];exact hb⟩
theorem bg6 (aE:Int)(a b:U):(c9 aE a b).1=0∧(c9 aE a b).2=[]∨(c9 aE a b).1=1:=by
 refine(?_:VG (c9 aE a b));unfold c9 bi8
 repeat' refine bk9 (G:=VG) ?_ ?_
 all_goals first | exact .inl ⟨rfl,rfl⟩ | exact .inr rfl
theorem r5 {aE:Int}{x y:U}:(dP aE (.u x) (.u y)).1=0∧(dP aE (.u x) (.u y)).2=[]∨(dP aE (.u x) (.u y)).1=1:=by
 unfold dP;split
 ·rename_i h;rcases ae2 aE (.u x) (.u y)with e | e | e
  ·exact .inl e
  ·exact .inr e
  ·rw[e]at h;exact absurd h (by decide)
 ·show(if y=U.obj then((0:Int),([]:List Int))else c9 aE x y).1=0∧(if y=U.obj then((0:Int),([]:List Int))else c9 aE x y).2=[]∨(if y=U.obj then((0:Int),([]:List Int))else c9 aE x y).1=1;split
  ·left;exact⟨rfl,rfl⟩
  ·exact bg6 aE x y
def bA (aE:Int)(x y:U):Bool×List Int:=
 if x=y then(true,[])else if(dP aE (.u x) (.u y)).1=1 then(true,(dP aE (.u x) (.u y)).2)
 else if aE=2∧y≠.nev then(decide ((dP aE (.u y) (.u x)).1=1),(dP aE (.u y) (.u x)).2)else(false,[])
theorem mC (T:TbOk tb){y:U}(h:tb[t]?=some (.u y))(ho:rH (.u y)=true):11∉cN tb t:=by
 by_cases q:y=.nev
 ·subst q;have:t=2:=(gR T (i:=2) rfl).mp h;subst this;simp[cN]
 ·rw[lK T h q];simp only[List.mem_singleton];rintro rfl;have:=h.symm.trans (bG T (i:=11) rfl);simp at this;subst this;cases ho
theorem ap7 (n:Nat)(W:RW Y tb r rs){s:Nat}{x y:U}(ha:tb[s]?=some (.u x))(hb:tb[t]?=some (.u y))(oa:rH (.u x)=true)(ob:rH (.u y)=true)(ra:.u (aL x)∈tb)(rb:.u (aL y)∈tb)
  (hm:rs.aE≠3) (hl:rs.aU.length < 90000) (ht:tb.length < 80000) :
  aD (n+7) (.fn 110 2) [.ref r,.int s,.int t] Y=some (.bool (bA rs.aE (aL x) (aL y)).1,nset Y r rs (bA rs.aE (aL x) (aL y)).2):=by
 rw[pF];unfold r9;have n0:=c7 W
 suffices h:aD (n+6) (.fn 116 0) [.ref r,.int s,.int t] Y=some (.bool (bA rs.aE (aL x) (aL y)).1,nset Y r rs (bA rs.aE (aL x) (aL y)).2) by
  rw[st W.frz,st (aH _),st (aH _),st h,bW]
 rw[iO];unfold jU;rw[st aW,bd7 W.T.ok ha hb];by_cases q:x=y
 ·subst q;rw[if_pos (by simp),bW];unfold bA;rw[if_pos rfl,n0]
 ·rw[if_neg (by simpa using q)];obtain⟨s',es,hs'⟩:=lF (n+2) W ha ra ht;obtain⟨t',et,ht'⟩:=lF (n+2) W hb rb ht;change tb[s']?=some (Row.u (aL x))at hs';change tb[t']?=some (Row.u (aL y))at ht';have oa':rH (.u (aL x))=true:=by apply iS (p:=λx=>rH (.u x)) x oa;ext
  have ob':rH (.u (aL y))=true:=by apply iS (p:=λx=>rH (.u x)) y ob;ext
  rw[st W.aHost,st W.frzHost,st (aH _),st es,st W.aHost,st W.frzHost,st (aH _),st et,st aW,bd7 W.T.ok hs' ht'];unfold bA;by_cases q2:aL x=aL y
  ·rw[if_pos (by simpa using q2),if_pos q2,bW,n0]
  ·rw[if_neg (by simpa using q2),if_neg q2];have eT:dL (aD (n+5)) (.ref r) Y=some (false,Y):=by
    unfold dL;rw[st W.aMode,aW,decide_eq_false hm]
   rw[st eT,if_neg (by simp),st W.frz,st (aH _),st (aH _),st (oK n W hs' ht' oa' ob' (mC W.T.ok ht' ob') hl)];have sg:=r5 (aE:=rs.aE) (x:=aL x) (y:=aL y);have sg2:=r5 (aE:=rs.aE) (x:=aL y) (y:=aL x);by_cases q3:(dP rs.aE (.u (aL x)) (.u (aL y))).1=1
   ·have W2:=W.nset (dP rs.aE (.u (aL x)) (.u (aL y))).2
    have eT4:b8 (aD (n+5)) (.int (dP rs.aE (.u (aL x)) (.u (aL y))).1) (.ref r) (.int t') (.int s') (nset Y r rs (dP rs.aE (.u (aL x)) (.u (aL y))).2)=some (true,nset Y r rs (dP rs.aE (.u (aL x)) (.u (aL y))).2):=by
     unfold b8;rw[st aW,decide_eq_true q3];rfl
    rw[st eT4,if_pos rfl,if_pos q3,bW]
   ·have hz:(dP rs.aE (.u (aL x)) (.u (aL y))).1=0∧(dP rs.aE (.u (aL x)) (.u (aL y))).2=[]:=sg.resolve_right q3
    rw[hz.2,n0,if_neg q3,hz.1];have e3:(aB (aB (aA (.ref r)) λf38=>aB (aA (.int t')) λf39=>aB (aA (.int s')) λf40=>aB (aD (n+5) (.fn 120 0) [f38,f39,f40]) λv41=>aK .Eq v41 (.int 1)) λb42=>bV .And b42 (ret true) (ret b42)) Y =
      some (decide ((dP rs.aE (.u (aL y)) (.u (aL x))).1=1),nset Y r rs (dP rs.aE (.u (aL y)) (.u (aL x))).2):=by
     rw[aC,st W.frz,aC,st (aH _),aC,st (aH _),aC,st (oK n W ht' hs' ob' oa' (mC W.T.ok hs' oa') hl),st aW];cases decide ((dP rs.aE (.u (aL y)) (.u (aL x))).1=1)<;>rfl
    by_cases q4:rs.aE=2∧aL y≠.nev
    ·have eT4:b8 (aD (n+5)) (.int 0) (.ref r) (.int t') (.int s') Y=some (decide ((dP rs.aE (.u (aL y)) (.u (aL x))).1=1),nset Y r rs (dP rs.aE (.u (aL y)) (.u (aL x))).2):=by
      unfold b8;rw[st aW,show decide ((0:Int)=1)=false from rfl,gM,aC,aC,st W.aMode,st aW,decide_eq_true q4.1,dA,aC,st pG];rw[show decide ((t':Int)=2)=decide (aL y=.nev)from cR W.T.ok ht' 2 .nev rfl,decide_eq_false q4.2];rw[show(!false)=true from rfl,dA,st e3];cases decide ((dP rs.aE (.u (aL y)) (.u (aL x))).1=1)<;>rfl
     rw[st eT4,if_pos q4];by_cases q5:(dP rs.aE (.u (aL y)) (.u (aL x))).1=1
     ·rw[decide_eq_true q5,if_pos rfl,bW]
     ·have hz2:=sg2.resolve_right q5
      rw[decide_eq_false q5,hz2.2,n0,if_neg (by simp),st (aJ7 (q:=false) pJ λh=>by simp at h)];rfl
    ·have eT4:b8 (aD (n+5)) (.int 0) (.ref r) (.int t') (.int s') Y=some (false,Y):=by
      unfold b8;rw[st aW,show decide ((0:Int)=1)=false from rfl,gM,aC,aC,st W.aMode,st aW];by_cases q5:rs.aE=2
      ·have q6:aL y=.nev:=Classical.byContradiction λc=>q4 ⟨q5,c⟩
       rw[decide_eq_true q5,dA,aC,st pG,show decide ((t':Int)=2)=decide (aL y=.nev)from cR W.T.ok ht' 2 .nev rfl,decide_eq_true q6];rfl
      ·rw[decide_eq_false q5];rfl
     rw[st eT4,if_neg q4,if_neg (by simp),st (aJ7 (q:=false) pJ λh=>by simp at h),n0];rfl
end
section
variable {Y Y':H}{tb tb':List Row}{t n r:Nat}{rs:RS}{call:CT}
theorem uM {xs:List V}{i:Nat}(h:Y[n]?=some (.list xs)):fY (i:Int) (.ref n) Y=some (.lst (xs.drop i),Y):=by
 have e:decide (0≤(i:Int))=true:=by simp
 show aB (rdL n) (λxs=>aB (dD (decide (0≤(i:Int)))) λ_=>ret (V.lst (xs.drop (i:Int).toNat))) Y=_;rw[st (o0 h),e];rfl
theorem bz7 (n:Nat)(W:RW Y tb r rs)(ns:List Int):aD (n+2) (.fn 110 6) [.ref r,.tup [.int rs.aU.length,.int rs.aN.length]] (nset Y r rs ns)=some (.none,Y):=by
 have W2:=W.nset ns;rw[aw9];unfold al7
 suffices h:aD (n+1) (.fn 114 0) [.ref r,.tup [.int rs.aU.length,.int rs.aN.length]] (nset Y r rs ns)=some (.none,Y) by
  rw[st W2.frz,st (iU _),st h];rfl
 rw[uC];unfold uT;rw[st W2.aNotes,st W2.aRows,st (show aJ (.int 0) (.tup [.int rs.aU.length,.int rs.aN.length]) _=some (.int rs.aU.length,nset Y r rs ns)from rfl),show cA (.int rs.aU.length)=some (rs.aU.length:Int)from rfl,aF];rw[st (aC6 W2.nr (by simp))];have e1:(nset Y r rs ns).set (r+7) (.list (((rs.aU++ns).map gQ).take rs.aU.length))=Y:=by
  unfold nset;rw[List.set_set,List.map_append,List.take_left' (by simp)];exact qI W.nr
 rw[show(nset Y r rs ns).set (r+7) (.list (({ rs with aU:=rs.aU++ns }:RS).aU.map gQ |>.take rs.aU.length))=Y from e1];have eT:cP (aD n) (upd (upd e0 (S "rel") (.ref r)) (S "spot") (.tup [.int rs.aU.length,.int rs.aN.length])) Y=some (false,Y):=by
  unfold cP;rw[aI (by nofun),bE,aF,st W.aTrail,st (len_list W.tr),bE,aF,st (show aJ (.int 1) (.tup [.int rs.aU.length,.int rs.aN.length]) Y=some (.int rs.aN.length,Y)from rfl),gt_int];simp
 show aB (cP (aD n) _) _ Y=_;rw[st eT];rfl
theorem af0 {aE:Int}{a b:Row}:(dP aE a b).2.length≤1:=by
 have h1:(fR aE a b).2.length≤1:=by
  refine(?_:VL (fR aE a b));unfold fR;(repeat' refine bk9 (G:=VL) ?_ ?_)<;>first | exact Nat.zero_le _ | exact zR
 have h2:∀x y,(c9 aE x y).2.length≤1:=λx y=>by
  refine(?_:VL (c9 aE x y));unfold c9 bi8;(repeat' refine bk9 (G:=VL) ?_ ?_)<;>first | exact Nat.zero_le _ | exact zR
 have h3:∀p:Int×List Int,p.2.length≤1→(if(fR aE a b).1 ≥ 0 then fR aE a b else p).2.length≤1:=λp hp=>by split<;>assumption
 cases a with
 | u x=>cases b with
  | u y=>exact h3 (if y=.obj then(0,[])else c9 aE x y) (by by_cases q:y=.obj;rw[if_pos q];exact Nat.zero_le _;rw[if_neg q];exact h2 _ _)
  | un K=>exact h3 _ (Nat.zero_le _)
 | un K=>exact h3 _ (Nat.zero_le _)
theorem rU {aE:Int}{x y:U}:(bA aE x y).2.length≤1:=by
 unfold bA
 repeat' split
 ·simp
 ·exact af0
 ·exact af0
 ·simp
theorem z7 {aE:Int}{x y:U}(h:(bA aE x y).1=false):(bA aE x y).2=[]:=by
 have sg:=r5 (aE:=aE) (x:=x) (y:=y);have sg2:=r5 (aE:=aE) (x:=y) (y:=x);unfold bA at h ⊢;split at h
 ·cases h
 ·split at h
  ·cases h
  ·split at h
   ·rename_i h1 h2 h3;rw[if_neg h1,if_neg h2,if_pos h3];simp only[decide_eq_false_iff_not]at h;exact(sg2.resolve_right h).2
   ·rename_i h1 h2 h3;rw[if_neg h1,if_neg h2,if_neg h3]
def a7 (aE:Int)(x:U):List U→Option (List Int)→Bool×List Int
 | [],none=>(false,[])
 | [],some ns=>(true,ns)
 | y::us,lax=>if(bA aE x (aL y)).1 then(if(bA aE x (aL y)).2=[]then(true,[])else a7 aE x us (some (lax.getD (bA aE x (aL y)).2)))else a7 aE x us lax
theorem e8 {aE:Int}{x y:U}{us:List U}{lax:Option (List Int)}:a7 aE x (y::us) lax=if(bA aE x (aL y)).1 then(if(bA aE x (aL y)).2=[]then(true,[])else a7 aE x us (some (lax.getD (bA aE x (aL y)).2)))else a7 aE x us lax:=by cases lax<;>rfl
theorem yV {aE:Int}{x:U}:∀{us:List U} {lax:Option (List Int)},(∃y∈us,bA aE x (aL y)=(true,[]))→a7 aE x us lax=(true,[]):=by
 intro ll
 induction ll with
 | nil=>
  rintro lax ⟨y,h,_⟩;cases h
 | cons z us ih=>
  rintro lax ⟨y,h,e⟩;rw[e8];by_cases q:bA aE x (aL z)=(true,[])
  ·rw[if_pos (by rw[q]),if_pos (by rw[q])]
  ·rcases List.mem_cons.mp h with rfl | h
   ·exact absurd e q
   ·by_cases q1:(bA aE x (aL z)).1=true
    ·have q2:(bA aE x (aL z)).2≠[]:=λc=>q (Prod.ext q1 c)
     rw[if_pos q1,if_neg q2];exact ih ⟨y,h,e⟩
    ·rw[if_neg q1];exact ih ⟨y,h,e⟩
def ax9 (tb:List Row)(us:List U):Prop:=∀u∈us,rH (.u u)=true∧.u (aL u)∈tb
def aH1:Option (List Int)→V
 | none=>.none
 | some ns=>.tup [.lst (ns.map gQ),.lst []]
theorem bZ9 (n:Nat)(W:RW Y tb r rs)(ns:List Int)(h1:ns.length < 1000)(hl:rs.aU.length < 90000):aD (n+1) (.fn 130 0) [.ref r,aH1 (some ns)] Y=some (.none,nset Y r rs ns):=by
 rw[ai1];unfold y4 aH1;rw[st W.aNotes,st W.aRows,st (dV W.nr (by ext)),st (show aJ (.int 0) (.tup [.lst (ns.map gQ),.lst []]) Y=some (.lst (ns.map gQ),Y)from rfl),jR,st (ao5 W.nr (by simp;lia) (by simpa using h1))];rw[st (show aJ (.int 1) (.tup [.lst (ns.map gQ),.lst []]) _=some (.lst [],_)from rfl),st (n8 _)];unfold nset;rw[List.map_append];rfl
theorem bU2 (n:Nat)(W:RW Y tb r rs){s:Nat}{x:U}(ha:tb[s]?=some (.u x))(oa:rH (.u x)=true)(rx:aL x=x){K:List Nat}{us:List U}(hK:Rows tb K us)(ho:ax9 tb us)
  (hm:rs.aE≠3) (hl:rs.aU.length < 80000) (ht:tb.length < 80000) :
  aD (n+8) (.fn 129 0) [.ref r,.int s,.tup (bQ K)] Y=some (.bool (a7 rs.aE x us none).1,nset Y r rs (a7 rs.aE x us none).2):=by
 rw[ah4];unfold y3;rw[st (eQ _)];have n0:=c7 W;have key:=ax5 (enc:=λ(p:Nat)=>V.int p) (w:=ret ()) (f:=c6 (aD (n+7)))
  (λl ρ Y'=>Y'=Y∧∃us' lax,Rows tb l us'∧ax9 tb us'∧a7 rs.aE x us' lax=a7 rs.aE x us none∧ρ (S "rel")=some (.ref r)∧ρ (S "s")=some (.int s)∧ρ (S "lax")=some (aH1 lax)∧(∀ns,lax=some ns→ns.length≤1))
  (λv Y'=>v=.bool true∧a7 rs.aE x us none=(true,[])∧Y'=Y) (λ_ _ _ _=>rfl)
  (λp l ρ Y' hI=>by
   obtain⟨rfl,us',lax,hr0,hok,hs,h1,h2,h3,hlax⟩:=hI;obtain⟨y,us',rfl,hp,hr⟩:=cW hr0;have oy:=hok y zS;have rx':Row.u (aL x)∈tb:=by rw[rx];exact zE ha
   have ea:=ap7 n W ha hp oa oy.1 rx' oy.2 hm (by lia) ht;rw[rx]at ea;have eT:lN (aD (n+7)) ρ (.int p) Y'=some ((bA rs.aE x (aL y)).1,nset Y' r rs (bA rs.aE x (aL y)).2):=by
    unfold lN;rw[h1,aF,st W.mAsk,h2,aF,eF,st (aH _),eF,st (aH _),st (show bD (aD (n+7)) (.py 110 2) (S "ask") (.ref r) [.int s,.int p] Y'=_ from ea),bJ]
   have emk:bD (aD (n+7)) (.py 110 5) (S "mark") (.ref r) [] Y'=some (.tup [.int rs.aU.length,.int rs.aN.length],Y'):=bA2 (n+6) W;have W2:=W.nset (bA rs.aE x (aL y)).2;have hnl:=rU (aE:=rs.aE) (x:=x) (y:=aL y);have k1:∀v,upd (upd ρ (S "part") (.int p)) (S "spot") v (S "rel")=some (.ref r):=λv=>by rw[aI (by nofun),aI (by nofun)];exact h1
   have k2:∀v,upd (upd ρ (S "part") (.int p)) (S "spot") v (S "s")=some (.int s):=λv=>by rw[aI (by nofun),aI (by nofun)];exact h2
   have k3:∀v,upd (upd ρ (S "part") (.int p)) (S "spot") v (S "lax")=some (aH1 lax):=λv=>by rw[aI (by nofun),aI (by nofun)];exact h3
   have hok':ax9 tb us':=λu hu=>hok u (zC _ hu);cases q1:(bA rs.aE x (aL y)).1 with
   | false=>
    have q2:=z7 q1;refine .inl ⟨upd (upd ρ (S "part") (.int p)) (S "spot") (.tup [.int rs.aU.length,.int rs.aN.length]),Y',⟨rfl,us',lax,hr,hok',?_,k1 _,k2 _,k3 _,hlax⟩,λk=>?_⟩
    ·rw[←hs,e8,q1];rfl
    ·unfold c6;rw[h1,aF,st W.mMark,st emk,st eT,q1,q2,n0];rfl
   | true=>
    have eT2:lM (aD (n+7)) ρ (.tup [.int rs.aU.length,.int rs.aN.length]) (nset Y' r rs (bA rs.aE x (aL y)).2)=some (decide ((bA rs.aE x (aL y)).2=[]),nset Y' r rs (bA rs.aE x (aL y)).2):=by
     unfold lM;rw[h1,aF,st W2.aNotes,st W2.aRows,st (len_list W2.nr),st (show aJ (.int 0) (.tup [.int rs.aU.length,.int rs.aN.length]) _=some (.int rs.aU.length,nset Y' r rs (bA rs.aE x (aL y)).2)from rfl),aW];congr 2;rw[Bool.eq_iff_iff,decide_eq_true_iff,decide_eq_true_iff];cases (bA rs.aE x (aL y)).2 with
     | nil=>simp
     | cons c cs=>simp;lia
    by_cases q2:(bA rs.aE x (aL y)).2=[]
    ·refine .inr ⟨_,Y',⟨rfl,?_,rfl⟩,λk=>?_⟩
     ·rw[←hs,e8,if_pos q1,if_pos q2]
     ·unfold c6;rw[h1,aF,st W.mMark,st emk,st eT,q1,if_pos rfl,st eT2,q2,n0];rfl
    ·have eT3:lL (aD (n+7)) ρ (nset Y' r rs (bA rs.aE x (aL y)).2)=some (lax.isNone,nset Y' r rs (bA rs.aE x (aL y)).2):=by
      unfold lL;rw[h3,aF];cases lax<;>rfl
     have eb:bD (aD (n+7)) (.py 110 6) (S "back") (.ref r) [.tup [.int rs.aU.length,.int rs.aN.length]] (nset Y' r rs (bA rs.aE x (aL y)).2)=some (.none,Y'):=bz7 (n+5) W _;have hs':a7 rs.aE x us' (some (lax.getD (bA rs.aE x (aL y)).2))=a7 rs.aE x us none:=by
      rw[←hs,e8,if_pos q1,if_neg q2]
     cases lax with
     | none=>
      refine .inl ⟨upd (upd (upd ρ (S "part") (.int p)) (S "spot") (.tup [.int rs.aU.length,.int rs.aN.length])) (S "lax") (aH1 (some (bA rs.aE x (aL y)).2)),Y',⟨rfl,us',some (bA rs.aE x (aL y)).2,hr,hok',hs',
       by rw[aI (by nofun)];exact k1 _,by rw[aI (by nofun)];exact k2 _,bE,λns e=>by cases e;exact hnl⟩,λk=>?_⟩
      unfold c6;rw[h1,aF,st W.mMark,st emk,st eT,q1,if_pos rfl,st eT2,decide_eq_false q2,if_neg (by simp),st eT3,if_pos (show(none:Option (List Int)).isNone=true from rfl),aF,st W2.aNotes,st W2.aRows,
       st (show aJ (.int 0) (.tup [.int rs.aU.length,.int rs.aN.length]) _=some (.int rs.aU.length,nset Y' r rs (bA rs.aE x (aL y)).2)from rfl),show cA (.int rs.aU.length)=some (rs.aU.length:Int)from rfl,aF,st (uM W2.nr),st (aH7 _),
       aF,st W2.aTrail,st (show aJ (.int 1) (.tup [.int rs.aU.length,.int rs.aN.length]) _=some (.int rs.aN.length,nset Y' r rs (bA rs.aE x (aL y)).2)from rfl),show cA (.int rs.aN.length)=some (rs.aN.length:Int)from rfl,aF,st (uM W2.tr),st (aH7 _),
       aF,st W2.mBack,eF,st (iU _),st eb]
      congr 3;show[V.lst (List.drop rs.aU.length ((rs.aU++(bA rs.aE x (aL y)).2).map gQ)),V.lst (List.drop rs.aN.length (rs.aN.map dR))]=_;rw[List.map_append,List.drop_left' (by simp)];simp
     | some ns=>
      refine .inl ⟨upd (upd ρ (S "part") (.int p)) (S "spot") (.tup [.int rs.aU.length,.int rs.aN.length]),Y',⟨rfl,us',some ns,hr,hok',hs',k1 _,k2 _,k3 _,hlax⟩,λk=>?_⟩;unfold c6;rw[h1,aF,st W.mMark,st emk,st eT,q1,if_pos rfl,st eT2,decide_eq_false q2,if_neg (by simp),st eT3,if_neg (by simp),aF,st W2.mBack,eF,st (iU _),st eb]) K
  (upd (upd (upd (upd e0 (S "rel") (.ref r)) (S "s") (.int s)) (S "parts") (.tup (bQ K))) (S "lax") V.none) Y
  ⟨rfl,us,none,hK,ho,rfl,by rw[aI (by nofun),aI (by nofun),aI (by nofun),bE],by rw[aI (by nofun),aI (by nofun),bE],bE,λ_ e=>by cases e⟩
 rcases key with⟨ρ',Y',⟨rfl,us',lax,hr,_,hs,h1,h2,h3,hlax⟩,e⟩ | ⟨v,Y',⟨rfl,hs,rfl⟩,e⟩
 ·rw[show ∀k,b9 (still (bQ K) (aP (.tup (bQ K)))) (c6 (aD (n+7))) (bQ K) _ k Y'=k ρ' Y' from e];have hus:us'=[]:=by cases us' with
   | nil=>rfl
   | cons _ _=>simp[Rows]at hr
  subst hus;unfold qY qX;rw[←hs,h3,aF];cases lax with
  | none=>
   rw[st (show aK .Is (aH1 none) V.none Y'=some (true,Y')from rfl),if_pos rfl,bW];show _=some (V.bool false,nset Y' r rs []);rw[n0]
  | some ns=>
   rw[st (show aK .Is (aH1 (some ns)) V.none Y'=some (false,Y')from rfl),if_neg (by simp),h1,aF,st W.frz,aF,st (show aA (aH1 (some ns)) Y'=some (aH1 (some ns),Y')from rfl),st (bZ9 (n+6) W ns (by have:=hlax ns rfl;lia) (by lia)),bW];rfl
 ·rw[show ∀k,b9 (still (bQ K) (aP (.tup (bQ K)))) (c6 (aD (n+7))) (bQ K) _ k Y'=_ from e,hs,n0]
theorem ar3 (x:U)(oa:rH (.u x)=true)(Y:H):(aB (aK .In (.int (jX (.u x))) (.tup [(.int 10),(.int 14),(.int 15),(.int 16),(.int 17),(.int 18),(.int 19)])) λc16=>
    if c16 then fail else aB (tI call (.int (jX (.u x)))) λc19=>if c19 then aA (.bool true)else aB (tH call (.int (jX (.u x)))) λc22=>if c22 then fail else
    aB (aB (aK .Eq (.int (jX (.u x))) (.int 12)) λb23=>aB (aS (.bool b23)) λt24=>bV .And t24 fail (ret (.bool b23))) λv25=>aA v25) Y=some (V.bool false,Y):=by
 apply iS (p:=λx=>rH (.u x)) x oa;ext
theorem aZ5 (n:Nat)(W:RW Y tb r rs){s:Nat}{x:U}(ha:tb[s]?=some (.u x))(oa:rH (.u x)=true)(rx:aL x=x){K:List Nat}{us:List U}(hb:tb[t]?=some (.un K))(hK:Rows tb K us)(ho:ax9 tb us)
  (hm:rs.aE≠3) (hl:rs.aU.length < 80000) (ht:tb.length < 80000) :
  aD (n+9) (.fn 131 0) [.ref r,.int s,.int t] Y=some (.bool (a7 rs.aE x us none).1,nset Y r rs (a7 rs.aE x us none).2):=by
 rw[ar8];unfold ag8;have n0:=c7 W;have hpt:cN tb t=K:=by
  have:t≠2:=by
   rintro rfl;have:=(bG W.T.ok (i:=2) (r:=.u .nev) rfl).symm.trans hb;simp at this
  simp only[cN,if_neg this,hb]
 rw[st W.aHost,st W.aTab,st W.T.frz,st (aH _),st (iY (n+7) W.T hb),hpt];have eS:=bU2 n W ha oa rx hK ho hm hl ht;have eT:m5 (aD (n+8)) (.int s) (.tup (bQ K)) (.ref r) Y=some ((a7 rs.aE x us none).1,nset Y r rs (a7 rs.aE x us none).2):=by
  unfold m5;rw[st (show aK .In (.int s) (.tup (bQ K)) Y=some (us.any λb=>decide (x=b),Y)from by rw[uX,wS W.T.ok hK ha])];cases q:us.any λb=>decide (x=b)with
  | true=>
   have:∃y∈us,bA rs.aE x (aL y)=(true,[]):=by
    obtain⟨y,hy,e⟩:=List.any_eq_true.mp q;have:x=y:=by simpa using e
    subst this;exact⟨x,hy,by unfold bA;rw[rx,if_pos rfl]⟩
   rw[yV this,n0];rfl
  | false=>
   rw[gM,aC,st W.frz,aC,st (aH _),aC,st (iU _),aC,st eS,st (bJ _)];cases (a7 rs.aE x us none).1<;>rfl
 rw[st eT];cases q:(a7 rs.aE x us none).1 with
 | true=>rfl
 | false=>
  have W2:=W.nset (a7 rs.aE x us none).2;rw[if_neg (by simp),st W2.T.rows,st (W2.T.item ha),st (d0 (.u x))];exact ar3 _ oa _
end
def Pr (tb:List Row)(t:Nat)(us:List U):Prop:=(∃y,tb[t]?=some (.u y)∧us=[y])∨(∃K,tb[t]?=some (.un K)∧Rows tb K us)
def d5 (aE:Int)(bs:List U):List U→Bool×List Int
 | []=>(true,[])
 | a::as=>if(a7 aE (aL a) bs none).1 then((d5 aE bs as).1,if(d5 aE bs as).1 then(a7 aE (aL a) bs none).2++(d5 aE bs as).2 else[])else(false,[])
theorem sK {aE:Int}{bs:List U}:d5 aE bs []=(true,[]):=rfl
theorem dN {aE:Int}{bs as:List U}{a:U}:d5 aE bs (a::as)=if(a7 aE (aL a) bs none).1 then((d5 aE bs as).1,if(d5 aE bs as).1 then(a7 aE (aL a) bs none).2++(d5 aE bs as).2 else[])else(false,[]):=rfl
def mS (aE:Int)(bs:List U):List U→Bool×List Int
 | []=>(false,[])
 | a::as=>if(a7 aE (aL a) bs none).1 then(true,(a7 aE (aL a) bs none).2)else mS aE bs as
theorem bm1 {aE:Int}{bs:List U}:mS aE bs []=(false,[]):=rfl
theorem d8 {aE:Int}{bs as:List U}{a:U}:mS aE bs (a::as)=if(a7 aE (aL a) bs none).1 then(true,(a7 aE (aL a) bs none).2)else mS aE bs as:=rfl
def bT (aE:Int)(as bs:List U):Bool×List Int:=if aE=2 then mS aE bs as else d5 aE bs as
def bL6 (tb:List Row)(aE:Int)(kn:List ((Nat×Nat)×Bool)):Prop:=∀k b,(k,b)∈kn→∃as bs,Pr tb k.1 as∧Pr tb k.2 bs∧bT aE as bs=(b,[])
structure RI (tb:List Row) (rs:RS):Prop where
 kn:bL6 tb rs.aE rs.bI
 tk:∀k∈rs.aN,eZ k rs.bI=none
 md:rs.aE≠3
def l6 (tb:List Row)(aE:Int)(clean:Prop)(sub:List (Nat×Nat)):Prop:=∀k∈sub,∃as bs ns,Pr tb k.1 as∧Pr tb k.2 bs∧bT aE as bs=(true,ns)∧(clean→ns=[])
section
variable {Y Y':H}{tb tb':List Row}{t n r:Nat}{rs:RS}{call:CT}
theorem Pr.uniq {us us':List U}(h:Pr tb t us)(h':Pr tb t us'):us=us':=by
 rcases h with⟨y,e,rfl⟩ | ⟨K,e,hr⟩<;>rcases h' with⟨y',e',rfl⟩ | ⟨K',e',hr'⟩
 ·have:=e.symm.trans e';simp at this;rw[this]
 ·have:=e.symm.trans e';simp at this
 ·have:=e.symm.trans e';simp at this
 ·have:=e.symm.trans e';simp at this;subst this
  have h1:us.map (λu=>some (Row.u u))=us'.map λu=>some (Row.u u):=hr.symm.trans hr';have inj:∀(a b:List U),a.map (λu=>some (Row.u u))=b.map (λu=>some (Row.u u))→a=b:=by
   intro a
   induction a with
   | nil=>intro b h;cases b with | nil=>rfl | cons _ _=>simp at h
   | cons x a ih=>intro b h;cases b with
    | nil=>simp at h
    | cons y b=>simp at h;rw[h.1,ih b h.2]
  exact inj _ _ h1
theorem Pr.pre {us:List U}(hp:tb <+: tb')(h:Pr tb t us):Pr tb' t us:=by
 rcases h with⟨y,e,rfl⟩ | ⟨K,e,hr⟩
 ·exact .inl ⟨y,fZ hp e,rfl⟩
 ·exact .inr ⟨K,fZ hp e,hr.pre hp⟩
theorem bL6.pre {aE:Int}{kn:List ((Nat×Nat)×Bool)}(hp:tb <+: tb')(h:bL6 tb aE kn):bL6 tb' aE kn:=λk b hk=>by
 obtain⟨as,bs,h1,h2,h3⟩:=h k b hk;exact⟨as,bs,h1.pre hp,h2.pre hp,h3⟩
theorem qH {aE:Int}{x:U}:∀{us:List U} {lax:Option (List Int)},(a7 aE x us lax).1=false→(a7 aE x us lax).2=[]∧lax=none:=by
 intro us
 induction us with
 | nil=>intro lax h;cases lax with
  | none=>exact⟨rfl,rfl⟩
  | some _=>cases h
 | cons y us ih=>
  intro lax h;rw[e8]at h ⊢;by_cases q:(bA aE x (aL y)).1=true
  ·rw[if_pos q]at h;split at h
   ·cases h
   ·cases (ih h).2
  ·rw[if_neg q]at h ⊢;exact ih h
theorem zT {aE:Int}{bs:List U}:∀{as:List U},(d5 aE bs as).1=false→(d5 aE bs as).2=[]
 | [],h=>rfl
 | a::as,h=>by
  rw[dN]at h ⊢;split at h
  ·rename_i q;simp only at h;rw[if_pos q,h];rfl
  ·rename_i q;rw[if_neg q]
theorem aP6 {aE:Int}{bs:List U}:∀{as:List U},(mS aE bs as).1=false→(mS aE bs as).2=[]:=by
 intro ll
 induction ll with
 | nil=>
  intro h;exact rfl
 | cons a as ih=>
  intro h;rw[d8]at h ⊢;split at h
  ·cases h
  ·rename_i q;rw[if_neg q];exact ih h
theorem rP {aE:Int}{as bs:List U}(h:(bT aE as bs).1=false):(bT aE as bs).2=[]:=by
 unfold bT at h ⊢;split
 ·rename_i q;rw[if_pos q]at h;exact aP6 h
 ·rename_i q;rw[if_neg q]at h;exact zT h
theorem bk6 {k:Nat×Nat}:∀{a c:List ((Nat×Nat)×Bool)},eZ k a=none→eZ k c=none→eZ k (a++c)=none:=by
 intro ll
 induction ll with
 | nil=>
  intro c _ h;exact h
 | cons x a ih=>
  intro c h h';rw[List.cons_append];rw[g7]at h ⊢;by_cases q:x.1=k
  ·rw[if_pos q]at h;cases h
  ·rw[if_neg q]at h ⊢;exact ih h h'
theorem bw4 (W:RW Y tb r rs)(k:Nat×Nat):aK .In (dR k) (.ref (r+3)) Y=some ((eZ k rs.bI).isSome,Y):=by
 rw[sJ W.kn (ac8 _ _),aG9];simp
theorem aX2 (W:RW Y tb r rs)(k:Nat×Nat):aK .In (dR k) (.ref (r+2)) Y=some (decide (k∈rs.aN),Y):=by
 rw[sJ W.as_ (ac9 _ _),ac7];by_cases q:k∈rs.aN<;>simp[q]
theorem bu9 {k:Nat×Nat}{b:Bool}{kn:List ((Nat×Nat)×Bool)}(h:(kn.map (·.1)).Nodup)(q:eZ k kn=none):((kn++[(k,b)]).map (·.1)).Nodup:=by
 rw[List.map_append,List.nodup_append];refine⟨h,by simp,λa ha c hc e=>?_⟩;subst e;simp at hc;subst hc;exact an1 q ha
abbrev bC2 (tb:List Row)(r s t c:Nat)(Q:Nat×Nat→Prop)(rs:RS)(p:Bool×List Int)(Y1 Y2:H)(rs2:RS)(sub:List (Nat×Nat))(xs:List Int):Prop:=RW Y2 tb r rs2∧RI tb rs2∧Fr (i9 r rs.tr) Y1 Y2∧rs2.aE=rs.aE∧rs2.bS=rs.bS+1∧rs2.tr=rs.tr∧rs2.a8≤rs.a8+1+c∧rs2.bI.length≤rs.bI.length+c∧rs2.aN=rs.aN++[(s,t)]++sub∧sub.length≤c∧rs2.aU=rs.aU++xs∧xs.length≤c∧(p.1=true→xs=p.2∧l6 tb rs.aE (p.2=[]) sub)∧(∀k∈sub,Q k)
abbrev bC3 (tb:List Row)(r s t c:Nat)(Q:Nat×Nat→Prop)(rs:RS)(p:Bool×List Int)(Y Y':H)(rs':RS):Prop:=RW Y' tb r rs'∧RI tb rs'∧Fr (i9 r rs.tr) Y Y'∧rs'.aE=rs.aE∧rs'.bS=rs.bS∧rs'.a8≤rs.a8+1+c∧rs'.bI.length≤rs.bI.length+2 * c+1∧rs'.aU=rs.aU++p.2∧(rs.aN≠[]→rs'.tr=rs.tr∧∃sub,rs'.aN=rs.aN++sub∧sub.length≤c+1∧l6 tb rs.aE (p.2=[]) sub∧(∀k∈sub,k=(s,t)∨Q k)∧(p.1=false→sub=[]))∧(rs.aN=[]→rs'.aN=[]∧(rs'.tr=rs.tr∨Y.length≤rs'.tr))
theorem bA4 (n:Nat){c:Nat}{Q:Nat×Nat→Prop}{s:Nat}{as bs:List U}(W:RW Y tb r rs)(I:RI tb rs)(ha:Pr tb s as)(hb:Pr tb t bs)(hk:(s,t)∉rs.aN)
  (b1:rs.a8 < 19000) (b2:rs.bS < 50) (b3:rs.aU.length < 70000) (b4:rs.bI.length < 70000) (b5:rs.aN.length < 100) (b6:c < 100)
  (hst:∀Y1,RW Y1 tb r { rs with a8:=rs.a8+1,bS:=rs.bS+1,aN:=rs.aN++[(s,t)] }→RI tb { rs with a8:=rs.a8+1,bS:=rs.bS+1,aN:=rs.aN++[(s,t)] }→∃Y2 rs2 sub xs,
   aD (n+2) (.fn 126 0) [.ref r,.int s,.int t] Y1=some (.bool (bT rs.aE as bs).1,Y2)∧bC2 tb r s t c Q rs (bT rs.aE as bs) Y1 Y2 rs2 sub xs) :
  ∃Y' rs',aD (n+3) (.fn 117 0) [.ref r,.int s,.int t] Y=some (.bool (bT rs.aE as bs).1,Y')∧bC3 tb r s t c Q rs (bT rs.aE as bs) Y Y' rs':=by
 refine Mine.Internal.Fl.go2 λΦ ret0=>?_;rw[vV];unfold qZ;generalize hp:bT rs.aE as bs=p at *;rw[st (aH _),st (aH _)];have eT1:iI (aD (n+2)) (.ref r) (.int s) (.int t) Y=some ((eZ (s,t) rs.bI).isSome,Y):=by
  unfold iI;rw[st W.aKnown];exact bw4 W (s,t)
 rw[st eT1];cases hl:eZ (s,t) rs.bI with
 | some b=>
  obtain⟨as',bs',h1,h2,h3⟩:=I.kn _ _ (aA8 hl);rw[h1.uniq ha,h2.uniq hb,hp]at h3;subst h3;rw[if_pos (show(some b).isSome=true from rfl),st W.aKnown,st (show aJ (.tup [.int s,.int t]) (.ref (r+3)) Y=some (.bool b,Y)from cY W.kn (ac8 (s,t) _) (by rw[show dM (.tup [.int s,.int t]) (knD rs.bI)=_ from aG9 (s,t) _,hl];rfl)),bW];refine ret0 _ ⟨Y,rs,rfl,W,I,Fr.rfl,rfl,rfl,by lia,by lia,by simp,λ_=>⟨rfl,[],by simp,by simp,λk hk=>by simp at hk,λk hk=>by simp at hk,λ_=>rfl⟩,λh=>⟨h,.inl rfl⟩⟩
 | none=>
  have eT2:iH (aD (n+2)) (.ref r) (.int s) (.int t) Y=some (false,Y):=by
   unfold iH;rw[st W.aAssumed,show aK .In (.tup [.int s,.int t]) (.ref (r+2)) Y=_ from aX2 W (s,t),decide_eq_false hk]
  have eT3:iG (aD (n+2)) (.ref r) Y=some (false,Y):=by
   unfold iG;rw[aC,st W.aLooks,st ge_int,show decide ((rs.a8:Int) ≥ 20000)=false by simp;lia];rfl
  have eT4:iF (aD (n+2)) (.ref r) Y=some (false,Y):=by
   unfold iF;rw[aC,st W.aDeep,st ge_int,show decide ((rs.bS:Int) ≥ 60)=false by simp;lia,gM,aC,st W.aLooks,st ge_int,show decide ((rs.a8:Int) ≥ 20000)=false by simp;lia];rfl
  rw[if_neg (by simp)];unfold mH;rw[st eT2,if_neg (by simp),st eT3,if_neg (by simp)];unfold mI;rw[st eT4,if_neg (by simp)];unfold mJ;rw[st W.aLooks,st (show jH .Add (.int rs.a8) (.int 1) Y=some (.int ((rs.a8+1:Nat):Int),Y)from rfl)];have hput1:mZ (S "looks") (.int ((rs.a8+1:Nat):Int)) (gN r rs)=gN r { rs with a8:=rs.a8+1,bS:=rs.bS }:=by ext
  have W1:=W.setLooks (rs.a8+1) rs.bS;rw[st (qJ (x:=S "looks") W.i (by ext)),hput1];unfold mM;rw[st W1.mMark,st (show bD (aD (n+2)) (.py 110 5) (S "mark") (.ref r) [] _=_ from bA2 (n+1) W1),st W1.aAssumed];have F1:Fr (i9 r rs.tr) Y (Y.set r (.inst 110 (gN r { rs with a8:=rs.a8+1,bS:=rs.bS }))):=Fr.set (.inl rfl);rw[st (show b7 (.tup [.int s,.int t]) (.int 1) (.ref (r+2)) _=_ from gL W1.as_ (ac9 (s,t) _) (by simp[mV];lia))];rw[show put (.tup [.int s,.int t]) (.int 1) (mV rs.aN)=_ from bP7 (s,t) rs.aN hk];have htr:=W1.tr;have hnd:(rs.aN++[(s,t)]).Nodup:=by
   rw[List.nodup_append];exact⟨W.tnd,by simp,λa h1 c h2=>by simp at h2;subst h2;intro e;exact hk (e▸h1)⟩
  have W2:=W1.setTrail hnd;have hne:=W.ne;generalize hY1:Y.set r (.inst 110 (gN r { rs with a8:=rs.a8+1,bS:=rs.bS }))=Y1 at *;have hi2:(Y1.set (r+2) (.dict (mV (rs.aN++[(s,t)]))))[r]?=some (.inst 110 (gN r { rs with a8:=rs.a8+1,bS:=rs.bS })):=cH W1.i (by lia);have htr2:(Y1.set (r+2) (.dict (mV (rs.aN++[(s,t)]))))[rs.tr]?=some (.list (rs.aN.map dR)):=cH htr (by lia);rw[st (bY hi2 (v:=.ref rs.tr) (by ext)),st (dV htr2 (by ext)),jR,st (lZ htr2 (by simp;lia))];have hW2:(Y1.set (r+2) (.dict (mV (rs.aN++[(s,t)])))).set rs.tr (.list (rs.aN.map dR++[V.tup [.int s,.int t]]))=(Y1.set (r+2) (.dict (mV (rs.aN++[(s,t)])))).set rs.tr (.list ((rs.aN++[(s,t)]).map dR)):=by
   rw[List.map_append];rfl
  rw[hW2];have F2:Fr (i9 r rs.tr) Y1 ((Y1.set (r+2) (.dict (mV (rs.aN++[(s,t)])))).set rs.tr (.list ((rs.aN++[(s,t)]).map dR))):=(Fr.set (.inr (.inl rfl))).trans (Fr.set (.inr (.inr (.inr (.inr rfl)))));change RW ((Y1.set (r+2) (.dict (mV (rs.aN++[(s,t)])))).set rs.tr (.list ((rs.aN++[(s,t)]).map dR))) tb r { rs with a8:=rs.a8+1,bS:=rs.bS,aN:=rs.aN++[(s,t)] } at W2;generalize (Y1.set (r+2) (.dict (mV (rs.aN++[(s,t)])))).set rs.tr (.list ((rs.aN++[(s,t)]).map dR))=Y2 at *;have hput3:mZ (S "deep") (.int ((rs.bS+1:Nat):Int)) (gN r { rs with a8:=rs.a8+1,bS:=rs.bS,aN:=rs.aN++[(s,t)] })=gN r { rs with a8:=rs.a8+1,bS:=rs.bS+1,aN:=rs.aN++[(s,t)] }:=by ext
  have W3:=W2.setLooks (rs.a8+1) (rs.bS+1);rw[st W2.aDeep,st (show jH .Add (.int rs.bS) (.int 1) Y2=some (.int ((rs.bS+1:Nat):Int),Y2)from rfl),st (qJ (x:=S "deep") W2.i (by ext)),hput3];have F3:Fr (i9 r rs.tr) Y2 (Y2.set r (.inst 110 (gN r { rs with a8:=rs.a8+1,bS:=rs.bS+1,aN:=rs.aN++[(s,t)] }))):=Fr.set (.inl rfl);change RW (Y2.set r (.inst 110 (gN r { rs with a8:=rs.a8+1,bS:=rs.bS+1,aN:=rs.aN++[(s,t)] }))) tb r { rs with a8:=rs.a8+1,bS:=rs.bS+1,aN:=rs.aN++[(s,t)] } at W3;generalize Y2.set r (.inst 110 (gN r { rs with a8:=rs.a8+1,bS:=rs.bS+1,aN:=rs.aN++[(s,t)] }))=Y3 at *;have I3:RI tb { rs with a8:=rs.a8+1,bS:=rs.bS+1,aN:=rs.aN++[(s,t)] }:=⟨I.kn,λk h=>by
   rcases List.mem_append.mp h with h | h
   ·exact I.tk k h
   ·simp at h;subst h;exact hl,I.md⟩
  obtain⟨Y4,rs4,sub,xs,e4,W4,I4,F4,m4,d4,t4,l4,k4,tr4,s4,n4,x4,ok4,hQ⟩:=hst Y3 W3 I3;have eS:(aB (aB (aR (S "mode") (.ref r)) λv38=>aK .Eq v38 (.int 3)) λc39=>if c39 then(fail:M V)else(aB (aA (.ref r)) λf40=>aB (aA (.int s)) λf41=>aB (aA (.int t)) λf42=>aB (aD (n+2) (.fn 126 0) [f40,f41,f42]) λv43=>ret v43)) Y3=some (.bool p.1,Y4):=by
   rw[aC,st W3.aMode,st aW,show decide (({ rs with a8:=rs.a8+1,bS:=rs.bS+1,aN:=rs.aN++[(s,t)] }:RS).aE=3)=false from decide_eq_false I.md,if_neg (by simp),st W3.frz,st (aH _),st (aH _),st e4];rfl
  have W5:=W4.setLooks rs4.a8 rs.bS;have hput5:mZ (S "deep") (.int (rs.bS:Int)) (gN r rs4)=gN r { rs4 with a8:=rs4.a8,bS:=rs.bS }:=by ext
  have F5:Fr (i9 r rs.tr) Y4 (Y4.set r (.inst 110 (gN r { rs4 with a8:=rs4.a8,bS:=rs.bS }))):=Fr.set (.inl rfl);unfold mN;rw[st eS,st W4.aDeep,st (show jH .Sub (.int rs4.bS) (.int 1) Y4=some (.int (rs.bS:Int),Y4)from by
   show some (V.int ((rs4.bS:Int) - 1),Y4)=_;rw[d4];congr 3;lia),st (qJ (x:=S "deep") W4.i (by ext)),hput5]
  generalize Y4.set r (.inst 110 (gN r { rs4 with a8:=rs4.a8,bS:=rs.bS }))=Y5 at *;have FA:Fr (i9 r rs.tr) Y Y5:=F1.trans (F2.trans (F3.trans (F4.trans F5)));rw[st (show mG (aD (n+2)) (.bool p.1) Y5=some (!p.1,Y5)from aK2 (bJ _))];have t7:iD (aD (n+2)) (.tup [.int rs.aU.length,.int rs.aN.length])=λY=>some (decide (rs.aN=[]),Y):=by
   funext Y;unfold iD;rw[st (show aJ (.int 1) (.tup [.int rs.aU.length,.int rs.aN.length]) Y=some (.int rs.aN.length,Y)from rfl),aW];congr 2;rw[Bool.eq_iff_iff,decide_eq_true_iff,decide_eq_true_iff];cases rs.aN with
   | nil=>simp
   | cons a l=>simp;lia
  cases hp1:p.1 with
  | false=>
   obtain⟨Y6,e6,W6,F6⟩:=aZ8 (n+1) W5 (n0:=rs.aU) (t0:=rs.aN) (x:=xs) (y:=[(s,t)]++sub) n4 (by show rs4.aN=_;rw[tr4,List.append_assoc]) (by show rs4.aN.length < 1000;rw[tr4];simp;lia);have hp2:p.2=[]:=by rw[←hp];exact rP (by rw[hp];exact hp1)
   rw[show(!false)=true from rfl,if_pos rfl];unfold mL;rw[st W5.frz,st (iU _),st e6];have F6':Fr (i9 r rs.tr) Y5 Y6:=by
    have:rs4.tr=rs.tr:=t4;rw[←this];exact F6
   have hlk:eZ (s,t) rs4.bI=none:=I4.tk (s,t) (by rw[tr4];simp);have I6:RI tb { rs4 with bS:=rs.bS,aU:=rs.aU,aN:=rs.aN }:=⟨I4.kn,λk h=>I4.tk k (by rw[tr4];simp[h]),I4.md⟩;have eT6:iE (aD (n+2)) (.tup [.int rs.aU.length,.int rs.aN.length]) (.ref r) Y6=some (decide (rs.aN=[])||!decide (rs.aE=4),Y6):=by
    unfold iE;refine oX (congrFun t7 Y6) λ_=>l9 ?_;rw[st W6.aMode,pG];show some (!decide (rs4.aE=4),Y6)=_;rw[m4]
   rw[st eT6];cases hc:(decide (rs.aN=[])||!decide (rs.aE=4))with
   | false=>
    rw[if_neg (by simp),bW];refine ret0 _ ⟨Y6,_,by rw[hp1],W6,I6,FA.trans F6',m4,rfl,l4,?_,?_,λ_=>⟨t4,[],by simp,by simp,λk hk=>by simp at hk,λk hk=>by simp at hk,λ_=>rfl⟩,λh=>⟨h,.inl t4⟩⟩
    ·show rs4.bI.length≤_;lia
    ·show rs.aU=_;rw[hp2];simp
   | true=>
    have e7:=gL (k:=dR (s,t)) (v:=.bool false) W6.kn (ac8 _ _) (by simp[knD];lia);rw[show put (dR (s,t)) (.bool false) (knD rs4.bI)=_ from bs4 (s,t) false rs4.bI hlk]at e7;rw[if_pos rfl,st W6.aKnown,st (show b7 (.tup [.int s,.int t]) (.bool false) (.ref (r+3)) Y6=_ from e7),bW];refine ret0 _ ⟨_,_,by rw[hp1],W6.setKnown (kn:=rs4.bI++[((s,t),false)]) (bu9 W4.knd hlk),⟨λk b h=>?_,λk h=>?_,I4.md⟩,(FA.trans F6').trans (Fr.set (.inr (.inr (.inl rfl)))),m4,rfl,l4,?_,?_,
     λ_=>⟨t4,[],by simp,by simp,λk hk=>by simp at hk,λk hk=>by simp at hk,λ_=>rfl⟩,λh=>⟨h,.inl t4⟩⟩
    ·rcases List.mem_append.mp h with h | h
     ·exact I4.kn k b h
     ·simp at h;obtain⟨rfl,rfl⟩:=h;refine⟨as,bs,ha,hb,?_⟩;show bT rs4.aE as bs=_;rw[m4,hp];exact Prod.ext hp1 hp2
    ·refine bk6 (I6.tk k h) ?_;rw[g7,bk5,if_neg];rintro rfl;exact hk h
    ·show(rs4.bI++[((s,t),false)]).length≤_;simp;lia
    ·show rs.aU=_;rw[hp2];simp
  | true=>
   obtain⟨hxs,hsub⟩:=ok4 hp1;rw[show(!true)=false from rfl,if_neg (by simp),st (congrFun t7 Y5)];by_cases ht:rs.aN=[]
   ·rw[if_pos (decide_eq_true ht)];unfold mK;rw[st W5.frz];have ec:(aB (aB (aR (S "notes") (.ref r)) λv63=>aB (aR (S "rows") v63) λv64=>aB (jG "len" [v64]) λv65=>aB (aJ (.int 0) (.tup [.int rs.aU.length,.int rs.aN.length])) λv66=>aK .Eq v65 v66) λb67=>ret b67) Y5=some (decide (p.2=[]),Y5):=by
     rw[gA,st W5.aNotes,st W5.aRows,st (len_list W5.nr),st (show aJ (.int 0) (.tup [.int rs.aU.length,.int rs.aN.length]) Y5=some (.int rs.aU.length,Y5)from rfl),aW];congr 2;rw[Bool.eq_iff_iff,decide_eq_true_iff,decide_eq_true_iff];show((rs4.aU.map gQ).length:Int)=_↔_;rw[n4,hxs];cases p.2 with
     | nil=>simp
     | cons a l=>simp;lia
    rw[gA]at ec;have hkk:∀k∈rs4.aN,eZ k rs4.bI=none:=I4.tk;obtain⟨tr',Y6,e6,W6,F6,hnew⟩:=bK5 (n+1) W5 (decide (p.2=[])) hkk (by show rs4.bI.length+rs4.aN.length < 90000;rw[tr4];simp;lia);rw[st ec,st e6,bW];have F6':Fr (i9 r rs.tr) Y5 Y6:=by
     have:rs4.tr=rs.tr:=t4;rw[←this];exact F6
    refine ret0 _ ⟨Y6,_,by rw[hp1],W6,⟨λk b h=>?_,λk h=>by simp at h,I4.md⟩,FA.trans F6',m4,rfl,l4,?_,?_,λh=>absurd ht h,λ_=>⟨rfl,.inr (zL FA.1 hnew)⟩⟩
    ·rcases List.mem_append.mp h with h | h
     ·exact I4.kn k b h
     ·by_cases hcl:p.2=[]
      ·rw[decide_eq_true hcl,if_pos rfl]at h;obtain⟨k',hk',e⟩:=zM h;cases e;have hk2:k∈rs.aN++[(s,t)]++sub:=by rw[←tr4];exact hk'
       rw[ht]at hk2;simp only[List.nil_append,List.cons_append,List.mem_cons]at hk2;show ∃as bs,_∧_∧bT rs4.aE as bs=_;rw[m4];rcases hk2 with rfl | hk2
       ·exact⟨as,bs,ha,hb,by rw[hp];exact Prod.ext hp1 hcl⟩
       ·obtain⟨as',bs',ns,h1,h2,h3,h4⟩:=hsub k hk2;exact⟨as',bs',h1,h2,by rw[h3,h4 hcl]⟩
      ·rw[decide_eq_false hcl]at h;simp at h
    ·show(rs4.bI++_).length≤_;have:(rs4.aN).length≤c+1:=by rw[tr4,ht];simp;lia
     split<;>simp<;>lia
    ·show rs4.aU=_;rw[n4,hxs]
   ·rw[if_neg (by simpa using ht),bW];refine ret0 _ ⟨Y5,_,by rw[hp1],W5,⟨I4.kn,I4.tk,I4.md⟩,FA,m4,rfl,l4,?_,?_,λ_=>⟨t4,[(s,t)]++sub,?_,by simp;lia,?_,λk h=>?_,λh=>by rw[hp1]at h;cases h⟩,λh=>absurd h ht⟩
    ·show rs4.bI.length≤_;lia
    ·show rs4.aU=_;rw[n4,hxs]
    ·show rs4.aN=_;rw[tr4,List.append_assoc]
    ·intro k h;simp only[List.cons_append,List.nil_append,List.mem_cons]at h;rcases h with rfl | h
     ·exact⟨as,bs,p.2,ha,hb,by rw[hp];exact Prod.ext hp1 rfl,id⟩
     ·exact hsub k h
    ·simp only[List.cons_append,List.nil_append,List.mem_cons]at h;exact h.imp id λh=>hQ k h
end
section
variable {Y Y':H}{tb tb':List Row}{t n r:Nat}{rs:RS}{call:CT}
theorem aK7 {aE:Int}{x:U}:∀{us:List U} {lax:Option (List Int)},(∀ns,lax=some ns→ns.length≤1)→(a7 aE x us lax).2.length≤1:=by
 intro us
 induction us with
 | nil=>intro lax h;cases lax with
  | none=>exact Nat.zero_le _
  | some ns=>exact h ns rfl
 | cons y us ih=>
  intro lax h;rw[e8];split
  ·split
   ·simp
   ·refine ih λns e=>?_;cases e;cases lax with
    | none=>exact rU
    | some ns=>exact h ns rfl
  ·exact ih h
theorem kR {aE:Int}{x:U}{us:List U}:(a7 aE x us none).2.length≤1:=aK7 λ_ e=>by cases e
theorem nM {aE:Int}{x y:U}:a7 aE x [y] none=bA aE x (aL y):=by
 rw[e8];split
 ·rename_i h;split
  ·rename_i h2;exact Prod.ext h.symm h2.symm
  ·exact Prod.ext h.symm rfl
 ·rename_i h;simp only[Bool.not_eq_true]at h;exact Prod.ext h.symm (z7 h).symm
theorem ao2 {aE:Int}{x:U}{bs:List U}:bT aE [x] bs=a7 aE (aL x) bs none:=by
 unfold bT;split
 ·rw[d8];split
  ·rename_i h;exact Prod.ext h.symm rfl
  ·rename_i h;simp only[Bool.not_eq_true]at h;exact Prod.ext h.symm (qH h).1.symm
 ·rw[dN];split
  ·rename_i h;refine Prod.ext h.symm ?_;simp[sK]
  ·rename_i h;simp only[Bool.not_eq_true]at h;exact Prod.ext h.symm (qH h).1.symm
theorem bc7 {u:U}(h:rH (.u u)=true):rH (.u (aL u))=true:=by apply iS (p:=λu=>rH (.u u)) u h;ext
theorem bK0 (n:Nat)(W:RW Y tb r rs){s:Nat}{x:U}(ha:tb[s]?=some (.u x))(oa:rH (.u x)=true)(rx:aL x=x){K:List Nat}{us:List U}(hb:tb[t]?=some (.un K))(hK:Rows tb K us)(ho:ax9 tb us)
  (hm:rs.aE≠3) (hl:rs.aU.length < 80000) (ht:tb.length < 80000) :
  aD (n+10) (.fn 126 0) [.ref r,.int s,.int t] Y=some (.bool (a7 rs.aE x us none).1,nset Y r rs (a7 rs.aE x us none).2):=by
 rw[pR];unfold o7;rw[st W.aHost,st W.aTab,st W.T.rows,st (W.T.item ha),st (d0 (.u x)),st (W.T.item hb),st (d0 (.un K)),st aW];rw[show decide (jX (.u x)=6)=false from by apply gF x;ext,if_neg (by simp),st aW,show decide (jX (.un K)=6)=true from rfl,if_pos rfl,st W.frz,st (aH _),st (aH _),st (aZ5 n W ha oa rx hb hK ho hm hl ht),bW]
abbrev ca7 (tb:List Row)(r s t:Nat)(rs:RS)(p:Bool×List Int)(Y Y':H)(rs':RS):Prop:=RW Y' tb r rs'∧RI tb rs'∧Fr (i9 r rs.tr) Y Y'∧rs'.aE=rs.aE∧rs'.bS=rs.bS∧rs'.a8≤rs.a8+2∧rs'.bI.length≤rs.bI.length+3∧rs'.aU=rs.aU++p.2∧(rs.aN≠[]→rs'.tr=rs.tr∧∃sub,rs'.aN=rs.aN++sub∧sub.length≤2∧l6 tb rs.aE (p.2=[]) sub∧(∀k∈sub,k=(s,t))∧(p.1=false→sub=[]))∧(rs.aN=[]→rs'.aN=[]∧(rs'.tr=rs.tr∨Y.length≤rs'.tr))
theorem bA3 (n:Nat)(W:RW Y tb r rs)(I:RI tb rs){s:Nat}{x:U}(ha:tb[s]?=some (.u x))(oa:rH (.u x)=true)(rx:aL x=x){K:List Nat}{us:List U}(hb:tb[t]?=some (.un K))(hK:Rows tb K us)(ho:ax9 tb us)(hk:(s,t)∉rs.aN)
  (b1:rs.a8 < 19000) (b2:rs.bS < 50) (b3:rs.aU.length < 70000) (b4:rs.bI.length < 70000) (b5:rs.aN.length < 100) (ht:tb.length < 80000) :
  ∃Y' rs',aD (n+11) (.fn 117 0) [.ref r,.int s,.int t] Y=some (.bool (a7 rs.aE x us none).1,Y')∧ca7 tb r s t rs (a7 rs.aE x us none) Y Y' rs':=by
 have hf:bT rs.aE [x] us=a7 rs.aE x us none:=by rw[ao2,rx]
 have key:=bA4 (n+8) (c:=1) (Q:=λk=>k=(s,t)) W I (as:=[x]) (bs:=us) (.inl ⟨x,ha,rfl⟩) (.inr ⟨K,hb,hK⟩) hk b1 b2 b3 b4 b5 (by lia) (λY1 W1 I1=>by
  rw[hf];have hl1:rs.aU.length < 80000:=by lia
  refine⟨_,_,[],(a7 rs.aE x us none).2,bK0 n W1 ha oa rx hb hK ho I1.md hl1 ht,W1.nset _,⟨I1.kn,I1.tk,I1.md⟩,aG3 W1 _,rfl,rfl,rfl,by simp,by simp,by simp,by simp,rfl,kR,λ_=>⟨rfl,λk h=>by simp at h⟩,λk h=>by simp at h⟩)
 rw[hf]at key;obtain⟨Y',rs',e,W',I',F',m',d',l',k',n',tr1,tr2⟩:=key;refine⟨Y',rs',e,W',I',F',m',d',by lia,by lia,n',λh=>?_,tr2⟩;obtain⟨a,sub,b,c,d,e,f⟩:=tr1 h;exact⟨a,sub,b,c,d,λk hk=>(e k hk).elim id id,f⟩
theorem ay4 {aE:Int}{x:U}{K:List Nat}(h:cV x=true):dP aE (.u x) (.un K)=(-1,[])∧dP aE (.un K) (.u x)=(-1,[]):=by
 have h1:fR aE (.u x) (.un K)=(-1,[]):=by apply iS (p:=cV) x h;ext
 have h2:fR aE (.un K) (.u x)=(-1,[]):=by apply iS (p:=cV) x h;ext
 constructor
 ·unfold dP;rw[h1];rfl
 ·unfold dP;rw[h2];rfl
theorem aL7 (T:TbOk tb){K:List Nat}(hb:tb[t]?=some (.un K)):cN tb t=K:=by
 have:t≠2:=by
  rintro rfl;have:=(bG T (i:=2) (r:=.u .nev) rfl).symm.trans hb;simp at this
 simp only[cN,if_neg this,hb]
theorem bp6 (T:TbOk tb){K:List Nat}{us:List U}(hb:tb[t]?=some (.un K))(hK:Rows tb K us)(ho:ax9 tb us):11∉cN tb t:=by
 rw[aL7 T hb];intro h;obtain⟨u,hu,e⟩:=hK.mem h;have:=(bG T (i:=11) (r:=.u .emp) rfl).symm.trans e;simp at this;subst this;exact absurd (ho _ hu).1 (by decide)
abbrev ca5 (tb:List Row)(r t:Nat)(aE:Int)(u:U)(bs:List U)(rs:RS)(Y Y':H)(rs':RS)(sub:List (Nat×Nat)):Prop:=RW Y' tb r rs'∧RI tb rs'∧Fr (i9 r rs.tr) Y Y'∧rs'.aE=rs.aE∧rs'.bS=rs.bS∧rs'.tr=rs.tr∧rs'.a8≤rs.a8+2∧rs'.bI.length≤rs.bI.length+3∧rs'.aU=rs.aU++(a7 aE (aL u) bs none).2∧rs'.aN=rs.aN++sub∧sub.length≤2∧l6 tb aE ((a7 aE (aL u) bs none).2=[]) sub∧(∀k∈sub,tb[k.1]?=some (.u (aL u))∧k.2=t)∧((a7 aE (aL u) bs none).1=false→sub=[])
def aS9 (tb:List Row)(r t:Nat)(aE:Int)(u:U)(bs:List U)(rs:RS)(Y Y':H):Prop:=∃rs' sub,ca5 tb r t aE u bs rs Y Y' rs' sub
abbrev bL5 (tb:List Row)(r t:Nat)(u:U)(us:List U)(rs:RS)(Y Y':H)(rs':RS):Prop:=RW Y' tb r rs'∧RI tb rs'∧Fr (i9 r rs.tr) Y Y'∧rs'.aE=rs.aE∧rs'.bS=rs.bS∧rs'.a8≤rs.a8+2∧rs'.bI.length≤rs.bI.length+3∧rs'.aU=rs.aU++(a7 rs.aE (aL u) us none).2∧(rs.aN≠[]→aS9 tb r t rs.aE u us rs Y Y')∧(rs.aN=[]→rs'.aN=[]∧(rs'.tr=rs.tr∨Y.length≤rs'.tr))
theorem ap8 (n:Nat)(W:RW Y tb r rs)(I:RI tb rs){p:Nat}{u:U}(ha:tb[p]?=some (.u u))(hat:cV u=true)(ra:.u (aL u)∈tb){K:List Nat}{us:List U}(hb:tb[t]?=some (.un K))(hK:Rows tb K us)(ho:ax9 tb us)
  (hk:∀q:Nat,tb[q]?=some (.u (aL u))→(q,t)∉rs.aN) (b1:rs.a8 < 19000) (b2:rs.bS < 50) (b3:rs.aU.length < 70000) (b4:rs.bI.length < 70000) (b5:rs.aN.length < 100) (ht:tb.length < 80000) :
  ∃Y' rs',aD (n+13) (.fn 110 2) [.ref r,.int p,.int t] Y=some (.bool (a7 rs.aE (aL u) us none).1,Y')∧bL5 tb r t u us rs Y Y' rs':=by
 rw[pF];unfold r9;obtain⟨p',ep,hp'⟩:=lF (n+8) W ha ra ht;obtain⟨t',et,ht'⟩:=lF (n+8) W hb (zE hb) ht;change tb[p']?=some (Row.u (aL u))at hp';change tb[t']?=some (Row.un K)at ht';have htt:t'=t:=k8 W.T.ok ht' hb;subst htt;have oa':rH (.u (aL u))=true:=by apply iS (p:=cV) u hat;ext
 have n0:=c7 W;obtain⟨Y',rs',e,W',I',F',m',d',l',k',n',tr1,tr2⟩:=bA3 n W I hp' oa' (vF u) hb hK ho (hk p' hp') b1 b2 b3 b4 b5 ht;have hne:∀{q:Nat} {v:U},tb[q]?=some (.u v)→decide ((q:Int)=t')=false:=λ{q v} hq=>by
  rw[decide_eq_false_iff_not];intro e;have:q=t':=by lia
  subst this;rw[hb]at hq;cases hq
 have hs:=ay4 (aE:=rs.aE) (K:=K) (oP hat);have e6:aD (n+12) (.fn 116 0) [.ref r,.int p,.int t'] Y=some (.bool (a7 rs.aE (aL u) us none).1,Y'):=by
  rw[iO];unfold jU;rw[st aW,hne ha,if_neg (by simp),st W.aHost,st W.frzHost,st (aH _),st ep,st W.aHost,st W.frzHost,st (aH _),st et,st aW,hne hp',if_neg (by simp)];have eT:dL (aD (n+11)) (.ref r) Y=some (false,Y):=by
   unfold dL;rw[st W.aMode,aW,decide_eq_false I.md]
  have e1:=oK (n+6) W hp' hb oa' rfl (bp6 W.T.ok hb hK ho) (by lia);have e2:=oK (n+6) W hb hp' rfl oa' (mC W.T.ok hp' oa') (by lia);rw[hs.1,n0]at e1;rw[hs.2,n0]at e2;have eT4:b8 (aD (n+11)) (.int (-1)) (.ref r) (.int t') (.int p') Y=some (false,Y):=by
   unfold b8;rw[st aW,show decide ((-1:Int)=1)=false from rfl,gM,aC,aC,st W.aMode,st aW];cases decide (rs.aE=2)
   ·rfl
   ·rw[dA,aC,st pG];cases !decide ((t':Int)=2)
    ·rfl
    ·rw[dA,aC,aC,st W.frz,aC,st (aH _),aC,st (aH _),aC,st e2,st aW];rfl
  rw[st eT,if_neg (by simp),st W.frz,st (aH _),st (aH _),st e1,st eT4,if_neg (by simp),st (show(aB (aK .Lt (.int (-1)) (.int 0)) λb45=>aB (aS (.bool b45)) λt46=>bV .And t46 (aB (aA (.ref r)) λf47=>aB (aA (.int p')) λf48=>aB (aA (.int t')) λf49=>
   aB (aD (n+11) (.fn 117 0) [f47,f48,f49]) λv50=>ret v50) (ret (.bool b45))) Y=some (.bool (a7 rs.aE (aL u) us none).1,Y')from by
    rw[st pJ,st (bJ _),show decide ((-1:Int) < 0)=true from rfl,dA,st W.frz,st (aH _),st (aH _),st e];rfl),bW]
 refine⟨Y',rs',?_,W',I',F',m',d',l',k',n',λh=>?_,tr2⟩
 ·rw[st W.frz,st (aH _),st (aH _),st e6,bW]
 ·obtain⟨a,sub,b,c,d,f,g⟩:=tr1 h;exact⟨rs',sub,W',I',F',m',d',a,l',k',n',b,c,d,λk hk=>by rw[f k hk];exact⟨hp',rfl⟩,g⟩
end
section
variable {Y Y':H}{tb tb':List Row}{t n r:Nat}{rs:RS}{call:CT}
theorem l6.mono {aE:Int}{c c':Prop}{sub:List (Nat×Nat)}(h:l6 tb aE c sub)(q:c'→c):l6 tb aE c' sub:=λk hk=>by
 obtain⟨as,bs,ns,a,b,d,e⟩:=h k hk;exact⟨as,bs,ns,a,b,d,λx=>e (q x)⟩
theorem l6.app {aE:Int}{c:Prop}{s1 s2:List (Nat×Nat)}(h:l6 tb aE c s1)(h2:l6 tb aE c s2):l6 tb aE c (s1++s2):=λk hk=>(List.mem_append.mp hk).elim (h k) (h2 k)
abbrev ca8 (tb:List Row)(r:Nat)(rs:RS)(Y:H)(p:Bool×List Int)(Y2:H)(rs2:RS)(sub:List (Nat×Nat))(xs:List Int):Prop:=RW Y2 tb r rs2∧RI tb rs2∧Fr (i9 r rs.tr) Y Y2∧rs2.aE=rs.aE∧rs2.bS=rs.bS∧rs2.tr=rs.tr∧rs2.a8≤rs.a8+20∧rs2.bI.length≤rs.bI.length+30∧rs2.aN=rs.aN++sub∧sub.length≤20∧rs2.aU=rs.aU++xs∧xs.length≤10∧(p.1=true→xs=p.2∧l6 tb rs.aE (p.2=[]) sub)
abbrev cb0 (tb:List Row)(r t:Nat)(rs:RS)(Y:H)(K:List Nat)(as bs:List U)(l:List Nat)(ρ:LE)(Y':H)(us':List U)(rs':RS)(sub:List (Nat×Nat))(xs:List Int):Prop:=RW Y' tb r rs'∧RI tb rs'∧Fr (i9 r rs.tr) Y Y'∧rs'.aE=rs.aE∧rs'.bS=rs.bS∧rs'.tr=rs.tr∧rs'.a8+2 * l.length≤rs.a8+2 * K.length∧rs'.bI.length+3 * l.length≤rs.bI.length+3 * K.length∧rs'.aN=rs.aN++sub∧sub.length+2 * l.length≤2 * K.length∧rs'.aU=rs.aU++xs∧xs.length+l.length≤K.length∧l6 tb rs.aE (xs=[]) sub∧(∀k∈sub,∃v∈as,v∉us'∧tb[k.1]?=some (.u (aL v)))∧Rows tb l us'∧us'.Nodup∧(∀u∈us',u∈as)∧ρ (S "rel")=some (.ref r)∧ρ (S "t")=some (.int t)∧(rs.aE≠2→d5 rs.aE bs as=((d5 rs.aE bs us').1,if(d5 rs.aE bs us').1 then xs++(d5 rs.aE bs us').2 else[]))∧(rs.aE=2→mS rs.aE bs as=mS rs.aE bs us'∧xs=[])
abbrev ca9 (tb:List Row)(r:Nat)(rs:RS)(Y:H)(as bs:List U)(v:V)(Y':H)(rs2:RS)(sub:List (Nat×Nat))(xs:List Int):Prop:=v=.bool (bT rs.aE as bs).1∧RW Y' tb r rs2∧RI tb rs2∧Fr (i9 r rs.tr) Y Y'∧rs2.aE=rs.aE∧rs2.bS=rs.bS∧rs2.tr=rs.tr∧rs2.a8≤rs.a8+20∧rs2.bI.length≤rs.bI.length+30∧rs2.aN=rs.aN++sub∧sub.length≤20∧rs2.aU=rs.aU++xs∧xs.length≤10∧((bT rs.aE as bs).1=true→xs=(bT rs.aE as bs).2∧l6 tb rs.aE ((bT rs.aE as bs).2=[]) sub)
theorem bU9 (m:Nat){s:Nat}{K:List Nat}{as bs:List U}(W:RW Y tb r rs)(I:RI tb rs)(hs:tb[s]?=some (.un K))(hK:Rows tb K as)(nd:as.Nodup)(inj:∀u∈as,∀v∈as,aL u=aL v→u=v)(h10:K.length≤10)
  (hask:∀(p:Nat) (u:U) (Y1:H) (rs1:RS),tb[p]?=some (.u u)→u∈as→RW Y1 tb r rs1→RI tb rs1→rs1.aE=rs.aE→rs1.a8 < 19000→rs1.bS=rs.bS→rs1.aU.length < 70000→rs1.bI.length < 70000→rs1.aN.length < 100→rs1.aN≠[]→
   (∀q:Nat,tb[q]?=some (.u (aL u))→(q,t)∉rs1.aN)→∃Y2,aD (m+2) (.fn 110 2) [.ref r,.int p,.int t] Y1=some (.bool (a7 rs.aE (aL u) bs none).1,Y2)∧aS9 tb r t rs.aE u bs rs1 Y1 Y2)
  (htr:rs.aN≠[]) (htr2:∀k∈rs.aN,∀u,tb[k.1]?≠some (.u u)) (b1:rs.a8 < 18000) (b3:rs.aU.length < 69000) (b4:rs.bI.length < 69000) (b5:rs.aN.length < 20) :
  ∃Y2 rs2 sub xs,aD (m+3) (.fn 128 0) [.ref r,.int s,.int t] Y=some (.bool (bT rs.aE as bs).1,Y2)∧ca8 tb r rs Y (bT rs.aE as bs) Y2 rs2 sub xs:=by
 rw[ab6];unfold wI;rw[st W.aHost,st W.aTab,st W.T.frz,st (aH _),st (iY (m+1) W.T hs),aL7 W.T.ok hs,st (eQ _)];have key:=ax5 (enc:=λ(p:Nat)=>V.int p) (w:=ret ()) (f:=dU (aD (m+2)))
  (λl ρ Y'=>∃us' rs' sub xs,cb0 tb r t rs Y K as bs l ρ Y' us' rs' sub xs)
  (λv Y'=>∃rs2 sub xs,ca9 tb r rs Y as bs v Y' rs2 sub xs)
  (λ_ _ _ _=>rfl)
  (λp l ρ Y' hI=>by
   obtain⟨us',rs',sub,xs,W',I',F',m',d',t',l',k',tr',sl,n',xl,so,sk,hr0,und,uas,h1,h2,hA,hE⟩:=hI;obtain⟨u,us',rfl,hp,hr⟩:=cW hr0;simp only[List.length_cons]at l' k' sl xl;have hu:u∈as:=uas u zS;have und':=List.nodup_cons.mp und;have hlen:rs'.aN.length < 100:=by rw[tr'];simp;lia
   have hne:rs'.aN≠[]:=by rw[tr'];simp[htr]
   have hfresh:∀q:Nat,tb[q]?=some (.u (aL u))→(q,t)∉rs'.aN:=λq hq hm=>by
    rw[tr']at hm;rcases List.mem_append.mp hm with h | h
    ·exact htr2 _ h _ hq
    ·obtain⟨v,hv,hv2,e⟩:=sk _ h;have:aL u=aL v:=by
      have:=hq.symm.trans e;simpa using this
     have:=inj u hu v hv this;subst this;exact hv2 zS
   obtain⟨Y2,e2,rs2,sub2,W2,I2,F2,m2,d2,t2,l2,k2,n2,tr2,sl2,so2,sk2,sf2⟩:=hask p u Y' rs' hp hu W' I' m' (by lia) d' (by rw[n'];simp;lia) (by lia) hlen hne hfresh;have nl2:=kR (aE:=rs.aE) (x:=aL u) (us:=bs);have eT1:j8 (aD (m+2)) ρ (.int p) Y'=some ((a7 rs.aE (aL u) bs none).1,Y2):=by
    unfold j8;rw[h1,aF,st W'.mAsk,eF,st (aH _),h2,aF,eF,st (aH _),st (show bD (aD (m+2)) (.py 110 2) (S "ask") (.ref r) [.int p,.int t] Y'=_ from e2),bJ]
   have eT2:j7 (aD (m+2)) ρ Y2=some (decide (rs.aE=2),Y2):=by
    unfold j7;rw[h1,aF,st W2.aMode,aW,m2,m']
   have eT3:j6 (aD (m+2)) ρ Y2=some (!decide (rs.aE=2),Y2):=by
    unfold j6;rw[h1,aF,st W2.aMode,pG,m2,m']
   have F2':Fr (i9 r rs.tr) Y' Y2:=by rw[←t'];exact F2
   have FA:=F'.trans F2';have go:∀k,dU (aD (m+2)) (.int p) ρ k Y'=(if(a7 rs.aE (aL u) bs none).1 then(if decide (rs.aE=2)then aA (.bool true)else k (upd ρ (S "part") (.int p)))else(if !decide (rs.aE=2)then aA (.bool false)else k (upd ρ (S "part") (.int p)))) Y2:=λk=>by
    unfold dU;rw[st eT1];cases (a7 rs.aE (aL u) bs none).1
    ·rw[if_neg (by simp),if_neg (by simp),st eT3]
    ·rw[if_pos rfl,if_pos rfl,st eT2]
   have hsk:∀k∈sub++sub2,∃v∈as,v∉us'∧tb[k.1]?=some (.u (aL v)):=λk hk=>by
    rcases List.mem_append.mp hk with h | h
    ·obtain⟨v,a,b,c⟩:=sk k h;exact⟨v,a,λh=>b (zC _ h),c⟩
    ·exact⟨u,hu,und'.1,(sk2 k h).1⟩
   have tr2':rs2.aN=rs.aN++(sub++sub2):=by rw[tr2,tr',List.append_assoc]
   have n2':rs2.aU=rs.aU++(xs++(a7 rs.aE (aL u) bs none).2):=by rw[n2,n',List.append_assoc]
   have soA:l6 tb rs.aE (xs++(a7 rs.aE (aL u) bs none).2=[]) (sub++sub2):=(so.mono λh=>(List.append_eq_nil_iff.mp h).1).app (so2.mono λh=>(List.append_eq_nil_iff.mp h).2);cases hb:(a7 rs.aE (aL u) bs none).1 with
   | true=>
    by_cases hm:rs.aE=2
    ·obtain⟨hE1,hE2⟩:=hE hm;have hfu:bT rs.aE as bs=(true,(a7 rs.aE (aL u) bs none).2):=by
      unfold bT;rw[if_pos hm,hE1];rw[d8];rw[if_pos hb]
     subst hE2;refine .inr ⟨.bool true,Y2,⟨rs2,sub++sub2,(a7 rs.aE (aL u) bs none).2,by rw[hfu],W2,I2,FA,m2.trans m',d2.trans d',t2.trans t',by lia,by lia,tr2',by simp;lia,by simpa using n2',by lia,λ_=>⟨by rw[hfu],by rw[hfu];simpa using soA⟩⟩,λk=>?_⟩;rw[go,hb,if_pos rfl,if_pos (decide_eq_true hm)];rfl
    ·refine .inl ⟨upd ρ (S "part") (.int p),Y2,⟨us',rs2,sub++sub2,xs++(a7 rs.aE (aL u) bs none).2,W2,I2,FA,m2.trans m',d2.trans d',t2.trans t',by lia,by lia,tr2',by simp;lia,n2',by simp;lia,soA,hsk,hr,und'.2,λv hv=>uas v (zC _ hv),
      by rw[aI (by nofun)];exact h1,by rw[aI (by nofun)];exact h2,λ_=>?_,λh=>absurd h hm⟩,λk=>?_⟩
     ·rw[hA hm];have e:d5 rs.aE bs (u::us')=((d5 rs.aE bs us').1,if(d5 rs.aE bs us').1 then(a7 rs.aE (aL u) bs none).2++(d5 rs.aE bs us').2 else[]):=by
       conv=>lhs;rw[dN]
       rw[if_pos hb]
      rw[e];cases (d5 rs.aE bs us').1<;>simp
     ·rw[go,hb,if_pos rfl,if_neg (by simpa using hm)]
   | false=>
    have hz:=(qH hb).1;have hsub2:=sf2 hb;subst hsub2;by_cases hm:rs.aE=2
    ·obtain⟨hE1,hE2⟩:=hE hm;refine .inl ⟨upd ρ (S "part") (.int p),Y2,⟨us',rs2,sub++[],xs++(a7 rs.aE (aL u) bs none).2,W2,I2,FA,m2.trans m',d2.trans d',t2.trans t',by lia,by lia,tr2',by simp;lia,n2',by simp;lia,soA,hsk,hr,und'.2,λv hv=>uas v (zC _ hv),
      by rw[aI (by nofun)];exact h1,by rw[aI (by nofun)];exact h2,λh=>absurd hm h,λ_=>⟨?_,by rw[hE2,hz];rfl⟩⟩,λk=>?_⟩
     ·rw[hE1];conv=>lhs;rw[d8]
      rw[if_neg (by simp[hb])]
     ·rw[go,hb,if_neg (by simp),if_neg (by simp[hm])]
    ·have hfu:(bT rs.aE as bs).1=false:=by
      unfold bT;rw[if_neg hm,hA hm];rw[dN];rw[if_neg (by simp[hb])]
     refine .inr ⟨.bool false,Y2,⟨rs2,sub++[],xs++(a7 rs.aE (aL u) bs none).2,by rw[hfu],W2,I2,FA,m2.trans m',d2.trans d',t2.trans t',by lia,by lia,tr2',by simp;lia,n2',by simp;lia,λh=>by rw[hfu]at h;cases h⟩,λk=>?_⟩;rw[go,hb,if_neg (by simp),if_pos (by simp[hm])];rfl) K (upd (upd (upd e0 (S "rel") (.ref r)) (S "s") (.int s)) (S "t") (.int t)) Y
  ⟨as,rs,[],[],W,I,Fr.rfl,rfl,rfl,rfl,by lia,by lia,by simp,by simp,by simp,by simp,λk h=>by simp at h,λk h=>by simp at h,hK,nd,λu h=>h,by rw[aI (by nofun),aI (by nofun),bE],bE,
   λ_=>by
    have h:=zT (aE:=rs.aE) (bs:=bs) (as:=as);cases hq:(d5 rs.aE bs as).1
    ·exact Prod.ext hq (h hq)
    ·exact Prod.ext hq rfl,λ_=>⟨rfl,rfl⟩⟩
 rcases key with⟨ρ',Y',⟨us',rs',sub,xs,W',I',F',m',d',t',l',k',tr',sl,n',xl,so,sk,hr0,und,uas,h1,h2,hA,hE⟩,e⟩ | ⟨v,Y',⟨rs2,sub,xs,rfl,W2,I2,F2,m2,d2,t2,l2,k2,tr2,sl2,n2,xl2,ok⟩,e⟩
 ·rw[show ∀k,b9 (still (bQ K) (aP (.tup (bQ K)))) (dU (aD (m+2))) (bQ K) _ k Y=k ρ' Y' from e];have hus:us'=[]:=by cases us' with
   | nil=>rfl
   | cons _ _=>simp[Rows]at hr0
  subst hus;simp only[List.length_nil]at l' k' sl xl;unfold p7;have hfu:bT rs.aE as bs=(!decide (rs.aE=2),xs):=by
   unfold bT;by_cases hm:rs.aE=2
   ·rw[if_pos hm,(hE hm).1,(hE hm).2,decide_eq_true hm];rfl
   ·rw[if_neg hm,hA hm,decide_eq_false hm];simp[sK]
  rw[st (show(aQ (ρ' (S "rel")) λr24=>aB (aR (S "mode") r24) λv25=>aK .NotEq v25 (.int 2)) Y'=some (!decide (rs.aE=2),Y')from by rw[h1,aF,st W'.aMode,pG,m']),bW,hfu];exact⟨Y',rs',sub,xs,rfl,W',I',F',m',d',t',by lia,by lia,tr',by lia,n',by lia,λ_=>⟨rfl,so⟩⟩
 ·rw[show ∀k,b9 (still (bQ K) (aP (.tup (bQ K)))) (dU (aD (m+2))) (bQ K) _ k Y=_ from e];exact⟨Y',rs2,sub,xs,rfl,W2,I2,F2,m2,d2,t2,l2,k2,tr2,sl2,n2,xl2,ok⟩
end
inductive Side where
 | top (x:U) | term (us:List U)
def hV (aE:Int)(x:U):Bool×List Int:=if x=.any then(if aE=4 then(false,[])else(true,[1]))else if x=.unk then(decide (aE=2),[])else(true,[])
def oW (y:U):Bool×List Int:=(decide (y≠.nev),[])
def i5 (aE:Int):Side→Side→Bool×List Int
 | .top x,.top y=>bA aE x y
 | .top x,.term _=>hV aE x
 | .term _,.top y=>oW y
 | .term A,.term B=>bT aE A B
def aq9 (tb:List Row)(K:List Nat)(us:List U):Prop:=∃R,Rows tb R (us.map aL)∧(2≤K.length→2≤(cF tb R).length→.un (cF tb R)∈tb)
def KdS (tb:List Row)(t:Nat):Side→Prop
 | .top x=>tb[t]?=some (.u x)∧mX x=true
 | .term us=>∃K,Term tb t K us∧aq9 tb K us
def Side.us:Side→List U
 | .top x=>if x=.nev then[]else[x]
 | .term us=>us
section
variable {Y Y':H}{tb tb':List Row}{t n r:Nat}{rs:RS}{call:CT}
theorem KdS.kd {S:Side}(h:KdS tb t S):Kd tb t S.us:=by
 cases S with
 | top x=>exact .inl ⟨x,h.1,h.2,rfl⟩
 | term us=>
  obtain⟨K,a,R,b,c⟩:=h;exact .inr ⟨K,R,a,b,c⟩
theorem aq9.regs {K:List Nat}{us:List U}(h:aq9 tb K us){u:U}(hu:u∈us):Row.u (aL u)∈tb:=by
 obtain⟨R,hR,_⟩:=h;obtain⟨q,_,e⟩:=hR.mem' (List.mem_map.mpr ⟨u,hu,rfl⟩);exact zE e
theorem mQ {u:U}(h:cV u=true):rH (.u u)=true:=by apply iS (p:=cV) u h;ext
theorem yA {u:U}(h:mX u=true):rH (.u u)=true∧aL u=u:=⟨by apply iS (p:=mX) u h;ext,by apply iS (p:=mX) (f:=aL) (g:=λx=>x) u h;ext⟩
theorem oA {us:List U}(hat:∀u∈us,cV u=true)(h:∀u∈us,Row.u (aL u)∈tb):ax9 tb us:=λu hu=>⟨mQ (hat u hu),h u hu⟩
theorem aK5 {aE:Int}{x:U}{y:U}:a7 aE x [aL y] none=a7 aE x [y] none:=by rw[nM,nM,vF]
theorem bl9 {aE:Int}{as:List U}{y:U}:bT aE as [aL y]=bT aE as [y]:=by
 have hA:∀as,d5 aE [aL y] as=d5 aE [y] as:=by
  intro as
  induction as with
  | nil=>rfl
  | cons a as ih=>rw[dN,dN,aK5,ih]
 have hE:∀as,mS aE [aL y] as=mS aE [y] as:=by
  intro as
  induction as with
  | nil=>rfl
  | cons a as ih=>rw[d8,d8,aK5,ih]
 unfold bT;rw[hA,hE]
theorem aX8 {aE:Int}{A:List U}(h:A≠[]):bT aE A A=(true,[]):=by
 have hs:∀a∈A,a7 aE (aL a) A none=(true,[]):=λa ha=>yV ⟨a,ha,by unfold bA;rw[if_pos rfl]⟩;have hA:∀as,(∀a∈as,a∈A)→d5 aE A as=(true,[]):=by
  intro as
  induction as with
  | nil=>intro _;rfl
  | cons a as ih=>intro q;rw[dN];rw[hs a (q a zS),ih λx hx=>q x (zC _ hx)];rfl
 unfold bT;split
 ·cases A with
  | nil=>exact absurd rfl h
  | cons a as=>rw[d8];rw[hs a zS];rfl
 ·exact hA A λa h=>h
abbrev ce2 (tb:List Row)(r:Nat)(rs:RS)(p:Bool×List Int)(Y Y':H)(rs':RS):Prop:=RW Y' tb r rs'∧RI tb rs'∧Fr (i9 r rs.tr) Y Y'∧rs'.aE=rs.aE∧rs'.bS=rs.bS∧rs'.a8≤rs.a8+40∧rs'.bI.length≤rs.bI.length+100∧rs'.aU=rs.aU++p.2∧rs'.aN=[]∧(rs'.tr=rs.tr∨Y.length≤rs'.tr)
def eG (tb:List Row)(r:Nat)(rs:RS)(p:Bool×List Int)(Y Y':H):Prop:=∃rs',ce2 tb r rs p Y Y' rs'
theorem eG.nset (W:RW Y tb r rs)(I:RI tb rs)(ht:rs.aN=[])(b:Bool)(ns:List Int):eG tb r rs (b,ns) Y (nset Y r rs ns):=
 ⟨_,W.nset ns,⟨I.kn,I.tk,I.md⟩,aG3 W ns,rfl,rfl,by simp,by simp,rfl,ht,.inl rfl⟩
theorem yR (n:Nat)(W:RW Y tb r rs)(I:RI tb rs){s:Nat}{K:List Nat}{A bs:List U}(hs:Term tb s K A)(h2:tb[s]?=some (.un K))(hA:∀u∈A,Row.u (aL u)∈tb)(hb:Pr tb t bs)
  (htgt:(∃y,bs=[y]∧tb[t]?=some (.u y)∧rH (.u y)=true∧.u (aL y)∈tb)∨(∃K',tb[t]?=some (.un K')∧Rows tb K' bs∧ax9 tb bs))
  (b1:rs.a8 < 17000) (b2:rs.bS < 40) (b3:rs.aU.length < 68000) (b4:rs.bI.length < 68000) (b5:rs.aN=[]) (ht:tb.length < 80000) :
  ∃Y',aD (n+16) (.fn 117 0) [.ref r,.int s,.int t] Y=some (.bool (bT rs.aE A bs).1,Y')∧eG tb r rs (bT rs.aE A bs) Y Y':=by
 have hnd:A.Nodup:=by
  have hr:=hs.rows;have nd:=hs.nd;have:∀{K:List Nat} {A:List U},Rows tb K A→K.Nodup→A.Nodup:=by
   intro K
   induction K with
   | nil=>intro A h _;cases A with | nil=>exact List.nodup_nil | cons _ _=>simp[Rows]at h
   | cons p K ih=>
    intro A h nd;obtain⟨u,A',rfl,h1,h2⟩:=cW h;have nd':=List.nodup_cons.mp nd;exact List.nodup_cons.mpr ⟨λhm=>nd'.1 ((h2.iff W.T.ok h1).mpr hm),ih h2 nd'.2⟩
  exact this hr nd
 have key:=bA4 (n+13) (c:=30) (Q:=λ_=>True) W I (as:=A) (bs:=bs) (.inr ⟨K,h2,hs.rows⟩) hb (by rw[b5];simp) (by lia) (by lia) (by lia) (by lia) (by rw[b5];simp) (by lia) (λY1 W1 I1=>by
  have hfr:=bU9 (t:=t) (n+11) (bs:=bs) W1 I1 h2 hs.rows hnd hs.inj hs.five (λp u Y2 rs2 hp hu W2 I2 m2 l2 d2 n2 k2 t2 tn fresh=>by
    have hat:=hs.atom u hu;have m2':rs2.aE=rs.aE:=m2;have d2':rs2.bS=rs.bS+1:=d2;rcases htgt with⟨y,rfl,hy,oy,ry⟩ | ⟨K',hK',hr',ho'⟩
    ·have e:=ap7 (n+6) W2 hp hy (mQ hat) oy (hA u hu) ry (by rw[m2'];exact I.md) (by lia) ht
     rw[m2']at e;refine⟨_,by rw[nM];exact e,{ rs2 with aU:=rs2.aU++(bA rs.aE (aL u) (aL y)).2 },[],W2.nset _,⟨I2.kn,I2.tk,I2.md⟩,aG3 W2 _,rfl,rfl,rfl,by simp,by simp,by rw[nM],by simp,by simp,λk h=>by simp at h,λk h=>by simp at h,λ_=>rfl⟩
    ·obtain⟨Y3,rs3,e,_,_,_,_,_,_,_,_,pp,_⟩:=ap8 n W2 I2 hp hat (hA u hu) hK' hr' ho' fresh l2 (by lia) n2 k2 t2 ht;rw[m2']at e pp;exact⟨Y3,e,pp tn⟩) (by simp) (λk hk u=>by
     rw[b5]at hk;simp only[List.nil_append,List.mem_singleton]at hk;subst hk;show tb[s]?≠_;rw[h2];simp) (by show rs.a8+1 < 18000;lia) (by show rs.aU.length < _;lia) (by show rs.bI.length < _;lia) (by rw[b5];simp)
  obtain⟨Y2,rs2,sub,xs,e,W2,I2,F2,m2,d2,t2,l2,k2,tr2,sl2,n2,xl2,ok⟩:=hfr;have e5:aD (n+15) (.fn 126 0) [.ref r,.int s,.int t] Y1=some (.bool (bT rs.aE A bs).1,Y2):=by
   have hkb:∃b,tb[t]?=some b:=by rcases hb with⟨y,h,_⟩ | ⟨K',h,_⟩<;>exact⟨_,h⟩
   obtain⟨b,hbt⟩:=hkb;rw[pR];unfold o7;rw[st W1.aHost,st W1.aTab,st W1.T.rows,st (W1.T.item h2),st (d0 (.un K)),st (W1.T.item hbt),st (d0 b),st aW,show decide (jX (.un K)=6)=true from rfl,if_pos rfl,st W1.frz,st (aH _),st (aH _),st e,bW]
  have l2':rs2.a8≤rs.a8+1+20:=l2;have k2':rs2.bI.length≤rs.bI.length+30:=k2;exact⟨Y2,rs2,sub,xs,e5,W2,I2,F2,m2,d2,t2,by lia,by lia,tr2,by lia,n2,by lia,ok,λ_ _=>trivial⟩)
 obtain⟨Y',rs',e,W',I',F',m',d',l',k',n',_,tr2⟩:=key;obtain⟨tr0,trn⟩:=tr2 b5;exact⟨Y',e,rs',W',I',F',m',d',by lia,by lia,n',tr0,trn⟩
end
theorem aJ9:([1,2,4].all λ(m:Int)=>qC.all λx=>qC.all λu=>!(mX x&&cV u)||decide (bA m x (aL u)=hV m x))=true:=by nofun
theorem aK1:([1,2,4].all λ(m:Int)=>qC.all λa=>qC.all λy=>!(cV a&&mX y)||decide (bA m (aL a) y=oW y))=true:=by nofun
theorem aT9 {m:Int}{x u:U}(hm:m=1∨m=2∨m=4)(hx:mX x=true)(hu:cV u=true):bA m x (aL u)=hV m x:=by
 have:=zA (zA (zA aJ9 m (by simpa using hm)) x (eV x)) u (eV u)
 simpa [hx,hu]using this
theorem ae3 {m:Int}{a y:U}(hm:m=1∨m=2∨m=4)(hy:mX y=true)(ha:cV a=true):bA m (aL a) y=oW y:=by
 have:=zA (zA (zA aK1 m (by simpa using hm)) a (eV a)) y (eV y)
 simpa [hy,ha]using this
def gT (m:Int)(x:U):Int×List Int:=if x=.any then(if m=4 then(0,[])else(1,[1]))else if x=.unk then(0,[])else(1,[])
theorem tt1 (m:Int)(x:U)(q:(gT m x).1=1):hV m x=(true,(gT m x).2):=by
 by_cases h1:x=.any
 ·subst h1;by_cases h2:m=4
  ·subst h2;exact absurd (show(0:Int)=1 from q) (by decide)
  ·simp only[hV,gT,h2,if_true,if_false]
 ·by_cases h3:x=.unk
  ·subst h3;exact absurd (show(0:Int)=1 from q) (by decide)
  ·simp only[hV,gT,h1,h3,if_false]
theorem tt0 (m:Int)(x:U)(q:¬(gT m x).1=1):gT m x=(0,[]):=by
 by_cases h1:x=.any
 ·subst h1;by_cases h2:m=4
  ·subst h2;rfl
  ·simp only[gT,h2,if_true,if_false,not_true_eq_false]at q
 ·by_cases h3:x=.unk
  ·subst h3;rfl
  ·simp only[gT,h1,h3,if_false,not_true_eq_false]at q
theorem tt2 (m:Int)(x:U)(q:¬(gT m x).1=1):hV m x=(decide (m=2)&&decide ((if x=.nev then((-1,[]):Int×List Int)else(1,[])).1=1),[]):=by
 by_cases h1:x=.any
 ·subst h1;by_cases h2:m=4
  ·subst h2;rfl
  ·simp only[gT,h2,if_true,if_false,not_true_eq_false]at q
 ·by_cases h3:x=.unk
  ·subst h3;show(decide (m=2),([]:List Int))=(decide (m=2)&&true,[]);rw[Bool.and_true]
  ·simp only[gT,h1,h3,if_false,not_true_eq_false]at q
section
variable {Y Y':H}{tb tb':List Row}{t n r:Nat}{rs:RS}{call:CT}
theorem bp9 {aE:Int}{x:U}{K:List Nat}(h:mX x=true):(dP aE (.u x) (.un K)).1 ≥ 0∧dP aE (.u x) (.un K)=(if x=.any then(if aE=4 then(0,[])else(1,[1]))else if x=.unk then(0,[])else(1,[]))∧
  dP aE (.un K) (.u x)=(if x=.nev then(-1,[])else(1,[])):=by
 rcases bh1 h with rfl | rfl | rfl | rfl
 all_goals
  refine⟨?_,?_,?_⟩<;>unfold dP fR<;>by_cases q:aE=4<;>simp(decide:=true) [zK,q]
def bK9 (call:CT)(r:Nat)(s' t':Nat)(z:Int):M V:=aB (aB (aK .Lt (.int z) (.int 0)) λb45=>aB (aS (.bool b45)) λt46=>bV .And t46 (aB (aA (.ref r)) λf47=>aB (aA (.int s')) λf48=>aB (aA (.int t')) λf49=>aB (call (.fn 117 0) [f47,f48,f49]) λv50=>ret v50) (ret (.bool b45))) λv51=>aA v51
def bL0 (call:CT)(r:Nat)(s' t':Nat)(z:Int):M V:=aB (b8 call (.int z) (.ref r) (.int t') (.int s')) λc44=>if c44 then aA (.bool true)else bK9 call r s' t' z
def ar1 (Y:H)(tb:List Row)(r:Nat)(rs:RS)(n s t:Nat)(p:Bool×List Int):Prop:=∃Y',aD (n+18) (.fn 110 2) [.ref r,.int s,.int t] Y=some (.bool p.1,Y')∧eG tb r rs p Y Y'
structure AskAt (Y:H) (tb:List Row) (r:Nat) (rs:RS):Prop where
 W:RW Y tb r rs
 I:RI tb rs
 hm:rs.aE=1∨rs.aE=2∨rs.aE=4
 b1:rs.a8 < 17000
 b2:rs.bS < 40
 b3:rs.aU.length < 68000
 b4:rs.bI.length < 68000
 b5:rs.aN=[]
 htb:tb.length < 80000
theorem aI9 (n:Nat)(Z:AskAt Y tb r rs){s:Nat}{p:Bool×List Int}{a b:U}(ha:tb[s]?=some (.u a))(hb:tb[t]?=some (.u b))(oa:rH (.u a)=true)(ob:rH (.u b)=true)(ra:.u (aL a)∈tb)(rb:.u (aL b)∈tb)(e:bA rs.aE (aL a) (aL b)=p):ar1 Y tb r rs n s t p:=by
 have this:=ap7 (n+11) Z.W ha hb oa ob ra rb Z.I.md (Nat.lt_trans Z.b3 (by decide)) Z.htb;rw[e]at this;exact⟨_,this,eG.nset Z.W Z.I Z.b5 _ _⟩
theorem yS (n:Nat)(Z:AskAt Y tb r rs){s:Nat}{p:Bool×List Int}{Y':H}(e:aD (n+17) (.fn 116 0) [.ref r,.int s,.int t] Y=some (.bool p.1,Y'))(h:eG tb r rs p Y Y'):ar1 Y tb r rs n s t p:=by
 refine⟨Y',?_,h⟩;rw[pF];unfold r9;rw[st Z.W.frz,st (aH _),st (aH _),st e,bW]
theorem bV1 (n:Nat)(Z:AskAt Y tb r rs):dL (aD (n+16)) (.ref r) Y=some (false,Y):=by
 unfold dL;rw[st Z.W.aMode,aW,decide_eq_false Z.I.md]
theorem w8 (n:Nat)(Z:AskAt Y tb r rs){s:Nat}{a b:Row}(a' b':Row)(ea':mY a=a')(eb':mY b=b')(ha:tb[s]?=some a)(hb:tb[t]?=some b)(oa:rH a=true)(ob:rH b=true)(ra:a'∈tb)(rb:b'∈tb)(hne:a'≠b')(h11:11∉cN tb t)(h11':11∉cN tb s) :
  ∃s' t':Nat,tb[s']?=some a'∧tb[t']?=some b'∧aD (n+17) (.fn 116 0) [.ref r,.int s,.int t] Y=bL0 (aD (n+16)) r s' t' (dP rs.aE a' b').1 (nset Y r rs (dP rs.aE a' b').2):=by
 have W:=Z.W;have htb:=Z.htb;have eT:=bV1 n Z;subst ea';subst eb';obtain⟨s',es,hs'⟩:=lF (n+13) W ha ra htb;obtain⟨t',et,ht'⟩:=lF (n+13) W hb rb htb;refine⟨s',t',hs',ht',?_⟩;have d1:decide ((s:Int)=t)=false:=by
  rw[decide_eq_false_iff_not];intro e;have:s=t:=by lia
  subst this;have:=ha.symm.trans hb;simp at this;exact hne (by rw[this])
 have d2:decide ((s':Int)=t')=false:=by
  rw[decide_eq_false_iff_not];intro e;have:s'=t':=by lia
  subst this;have:=hs'.symm.trans ht';simp at this;exact hne this
 have oa':rH (mY a)=true:=by cases a with
  | u x=>exact bc7 oa
  | un _=>rfl
 have ob':rH (mY b)=true:=by cases b with
  | u x=>exact bc7 ob
  | un _=>rfl
 have h11t:11∉cN tb t':=by cases b with
  | u x=>exact mC W.T.ok ht' ob'
  | un K=>have:=k8 W.T.ok ht' hb;subst this;exact h11
 rw[iO];unfold jU;rw[st aW,d1,if_neg (by simp),st W.aHost,st W.frzHost,st (aH _),st es,st W.aHost,st W.frzHost,st (aH _),st et,st aW,d2,if_neg (by simp),st eT,if_neg (by simp),st W.frz,st (aH _),st (aH _),st (oK (n+11) W hs' ht' oa' ob' h11t (Nat.lt_trans Z.b3 (by decide)))];rfl
theorem aD6 (n:Nat){s' t':Nat}{z:Int}{Y1:H}(h:z=1):bL0 (aD (n+16)) r s' t' z Y1=some (.bool true,Y1):=by
 subst h;unfold bL0;rw[st (show b8 (aD (n+16)) (.int 1) (.ref r) (.int t') (.int s') Y1=some (true,Y1)from rfl)];rfl
theorem sO (n:Nat)(Z:AskAt Y tb r rs){s' t':Nat}{z:Int}{a b:Row}{q:Bool}(hz:z≠1)(ha:tb[s']?=some a)(hb:tb[t']?=some b)(oa:rH a=true)(ob:rH b=true)(h11:11∉cN tb s')(hn:(dP rs.aE b a).2=[])(h1:rs.aE=2∧t'≠2→decide ((dP rs.aE b a).1=1)=q)(h2:¬(rs.aE=2∧t'≠2)→q=false) :
  bL0 (aD (n+16)) r s' t' z Y=(if q then aA (.bool true)else bK9 (aD (n+16)) r s' t' z) Y:=by
 have W:=Z.W;refine st ?_;unfold b8;rw[st aW,decide_eq_false hz,gM,aC,aC,st W.aMode,st aW];by_cases hm2:rs.aE=2
 ·rw[decide_eq_true hm2,dA,aC,st pG];by_cases ht2:t'=2
  ·rw[h2 λc=>c.2 ht2,ht2];rfl
  ·rw[show decide ((t':Int)=2)=false by rw[decide_eq_false_iff_not];lia,show(!false)=true from rfl,dA];have e2:=oK (n+11) W hb ha ob oa h11 (Nat.lt_trans Z.b3 (by decide));rw[hn,c7 W]at e2;rw[aC,aC,st W.frz,aC,st (aH _),aC,st (aH _),aC,st e2,st aW,h1 ⟨hm2,ht2⟩];cases q<;>rfl
 ·rw[decide_eq_false hm2,h2 λc=>hm2 c.1];rfl
theorem aq4 (n:Nat)(Z:AskAt Y tb r rs){s t':Nat}{z:Int}{Y':H}{b:Bool}(hz:z < 0)(ek:aD (n+16) (.fn 117 0) [.ref r,.int s,.int t'] Y=some (.bool b,Y')):bK9 (aD (n+16)) r s t' z Y=some (.bool b,Y'):=by
 have W:=Z.W;unfold bK9;rw[st (show(aB (aK .Lt (.int z) (.int 0)) λb45=>aB (aS (.bool b45)) λt46=>bV .And t46 (aB (aA (.ref r)) λf47=>aB (aA (.int s)) λf48=>aB (aA (.int t')) λf49=>aB (aD (n+16) (.fn 117 0) [f47,f48,f49]) λv50=>ret v50) (ret (.bool b45))) Y=some (.bool b,Y')from by
  rw[st pJ,st (bJ _),decide_eq_true hz,dA,st W.frz,st (aH _),st (aH _),st ek];rfl)]
 rfl
theorem aS5 (n:Nat)(Z:AskAt Y tb r rs){s:Nat}{p:Bool×List Int}(e:aD (n+17) (.fn 116 0) [.ref r,.int s,.int t] Y=some (.bool p.1,nset Y r rs p.2)):ar1 Y tb r rs n s t p:=yS n Z e (eG.nset Z.W Z.I Z.b5 p.1 p.2)
theorem ba4 (n:Nat)(Z:AskAt Y tb r rs){s:Nat}{x:U}{us:List U}{K:List Nat}(hs:KdS tb s (.top x))(hT:Term tb t K us)(hF:aq9 tb K us)(h1:tb[t]?=some (.un K)):ar1 Y tb r rs n s t (i5 rs.aE (.top x) (.term us)):=by
 have W:=Z.W;obtain⟨ha,hx⟩:=hs;obtain⟨ox,rx⟩:=yA hx;have h11t:11∉cN tb t:=bp6 W.T.ok h1 hT.rows (oA hT.atom λu hu=>hF.regs hu);obtain⟨s',t',hs',ht',e⟩:=w8 n Z (.u x) (.un K) (by show Row.u (aL x)=Row.u x;rw[rx]) rfl ha h1 ox rfl (zE ha) (zE h1) (by simp) h11t (mC W.T.ok ha ox);obtain⟨g0,g1,g2⟩:=bp9 (aE:=rs.aE) (K:=K) hx;by_cases q1:(dP rs.aE (.u x) (.un K)).1=1
 ·rw[aD6 n q1]at e;have this:i5 rs.aE (.top x) (.term us)=(true,(dP rs.aE (.u x) (.un K)).2):=by
   show hV rs.aE x=_;rw[g1]at q1 ⊢;exact tt1 _ _ q1
  rw[this];exact aS5 n Z e
 ·have hz:(dP rs.aE (.u x) (.un K))=(0,[]):=by
   rw[g1]at q1 ⊢;exact tt0 _ _ q1
  have hn:(dP rs.aE (.un K) (.u x)).2=[]:=by rw[g2];split<;>rfl
  have ht2:t'≠2:=by
   rintro rfl;have:=(bG W.T.ok (i:=2) (r:=.u .nev) rfl).symm.trans ht';simp at this
  have hask:i5 rs.aE (.top x) (.term us)=(decide (rs.aE=2)&&decide ((dP rs.aE (.un K) (.u x)).1=1),[]):=by
   show hV rs.aE x=_;rw[g1]at q1;rw[g2];exact tt2 _ _ q1
  rw[hask];generalize hq:(decide (rs.aE=2)&&decide ((dP rs.aE (.un K) (.u x)).1=1))=q;rw[hz,c7 W,sO n Z (z:=0) (q:=q) (by decide) hs' ht' ox rfl (mC W.T.ok hs' ox) hn (λh=>by rw[←hq,decide_eq_true h.1,Bool.true_and]) (λh=>by
   have:¬rs.aE=2:=λc=>h ⟨c,ht2⟩;rw[←hq,decide_eq_false this];rfl)]at e
  refine aS5 n Z (p:=(q,[])) ?_;rw[e,show nset Y r rs ((q,[]):Bool×List Int).2=Y from c7 W];cases q<;>rfl
theorem bm0 {aE:Int}{us:List U}(hne:us≠[])(hs0:∀a∈us,a7 aE (aL a) [.nev] none=(false,[])):bT aE us [.nev]=(false,[]):=by
 cases us with
 | nil=>exact absurd rfl hne
 | cons a us=>
  unfold bT;split
  ·have:∀l,(∀a∈l,a7 aE (aL a) [.nev] none=(false,[]))→mS aE [.nev] l=(false,[]):=by
    intro l
    induction l with
    | nil=>intro _;rfl
    | cons b l ih=>intro h;rw[d8];rw[h b zS];exact ih λx hx=>h x (zC _ hx)
   exact this _ hs0
  ·rw[dN];rw[hs0 a zS];rfl
theorem ba3 (n:Nat)(Z:AskAt Y tb r rs){s:Nat}{y:U}{us:List U}{K:List Nat}(hT:Term tb s K us)(hF:aq9 tb K us)(h1:tb[s]?=some (.un K))(ht:KdS tb t (.top y)):ar1 Y tb r rs n s t (i5 rs.aE (.term us) (.top y)):=by
 have W:=Z.W;obtain⟨hb,hy⟩:=ht;obtain⟨oy,ry⟩:=yA hy;have h11s:11∉cN tb s:=bp6 W.T.ok h1 hT.rows (oA hT.atom λu hu=>hF.regs hu);obtain⟨s',t',hs',ht',e⟩:=w8 n Z (.un K) (.u y) rfl (by show Row.u (aL y)=Row.u y;rw[ry]) h1 hb rfl oy (zE h1) (zE hb) (by simp) (mC W.T.ok hb oy) h11s;obtain⟨g0,g1,g2⟩:=bp9 (aE:=rs.aE) (K:=K) hy;by_cases q1:y=.nev
 ·subst q1;have ht2:t'=2:=(gR W.T.ok (i:=2) rfl).mp ht';rw[if_pos rfl]at g2;have hss:=k8 W.T.ok hs' h1;subst hss;obtain⟨Y',ek,post⟩:=yR n W Z.I hT h1 (λu hu=>hF.regs hu) (bs:=[.nev]) (t:=t') (.inl ⟨_,ht',rfl⟩) (.inl ⟨.nev,rfl,ht',rfl,zE ht'⟩) Z.b1 Z.b2 Z.b3 Z.b4 Z.b5 Z.htb;rw[bm0 (by rintro rfl;have:=hT.rows.len;simp at this;exact hT.ne this) λa ha=>by rw[nM];exact ae3 Z.hm (y:=.nev) rfl (hT.atom a ha)]at ek post;rw[g2,c7 W,sO n Z (s':=s') (t':=t') (z:=-1) (q:=false) (a:=.un K) (b:=.u .nev) (by decide) h1 ht' rfl rfl h11s (by rw[g1];rfl) (λh=>absurd ht2 h.2) (λ_=>rfl)]at e;exact yS n Z (e.trans (aq4 n Z (by decide) ek)) post
 ·rw[if_neg q1]at g2;rw[g2,aD6 n rfl,c7 W]at e;have this:i5 rs.aE (.term us) (.top y)=(true,[]):=by show oW y=_;unfold oW;simp[q1]
  rw[this];have h:=eG.nset W Z.I Z.b5 true [];rw[c7 W]at h;exact yS n Z e h
theorem bo4 (n:Nat)(Z:AskAt Y tb r rs){s:Nat}{us vs:List U}{K K2:List Nat}(hT:Term tb s K us)(hF:aq9 tb K us)(h1:tb[s]?=some (.un K))(hT2:Term tb t K2 vs)(hF2:aq9 tb K2 vs):ar1 Y tb r rs n s t (i5 rs.aE (.term us) (.term vs)):=by
 have W:=Z.W;have h11s:11∉cN tb s:=bp6 W.T.ok h1 hT.rows (oA hT.atom λu hu=>hF.regs hu);rcases hT2.at_ with⟨v,rfl,rfl,h3,h4⟩ | ⟨h3,h4⟩
 ·have ob:=mQ h4
  have ob':=mQ (oP h4);obtain⟨s',t',hs',ht',e⟩:=w8 n Z (.un K) (.u (aL v)) rfl rfl h1 h3 rfl ob (zE h1) (hF2.regs zS) (by simp) (mC W.T.ok h3 ob) h11s;have hss:=k8 W.T.ok hs' h1;subst hss;have hta:=ay4 (aE:=rs.aE) (K:=K) (oP h4);obtain⟨Y',ek,post⟩:=yR n W Z.I hT h1 (λu hu=>hF.regs hu) (bs:=[aL v]) (t:=t') (.inl ⟨_,ht',rfl⟩) (.inl ⟨aL v,rfl,ht',ob',by rw[vF];exact zE ht'⟩) Z.b1 Z.b2 Z.b3 Z.b4 Z.b5 Z.htb;rw[hta.2,c7 W,sO n Z (s':=s') (t':=t') (z:=-1) (q:=false) (a:=.un K) (b:=.u (aL v)) (by decide) h1 ht' rfl ob' h11s (by rw[hta.1]) (λ_=>by rw[hta.1];rfl) (λ_=>rfl)]at e;rw[bl9]at ek post;exact yS n Z (e.trans (aq4 n Z (by decide) ek)) post
 by_cases hst:s=t
 ·subst hst;have hKK:K=K2:=by have:=h1.symm.trans h3;simpa using this
  subst hKK;have huv:us=vs:=Pr.uniq (.inr ⟨K,h1,hT.rows⟩) (.inr ⟨K,h3,hT2.rows⟩);subst huv;have hself:i5 rs.aE (.term us) (.term us)=(true,[]):=aX8 (by rintro rfl;have:=hT.rows.len;simp at this;exact hT.ne this);rw[hself];have h:=eG.nset W Z.I Z.b5 true [];rw[c7 W]at h;refine yS n Z (p:=(true,[])) ?_ h;rw[iO];unfold jU;rw[st aW,decide_eq_true rfl,if_pos rfl,bW]
 ·have h11t:11∉cN tb t:=bp6 W.T.ok h3 hT2.rows (oA hT2.atom λu hu=>hF2.regs hu)
  have hne:Row.un K≠Row.un K2:=λc=>hst (k8 W.T.ok h1 (by rw[c];exact h3));obtain⟨s',t',hs',ht',e⟩:=w8 n Z (.un K) (.un K2) rfl rfl h1 h3 rfl rfl (zE h1) (zE h3) hne h11t h11s;have hss:=k8 W.T.ok hs' h1;have htt:=k8 W.T.ok ht' h3;subst hss;subst htt;have hz:∀K K2:List Nat,dP rs.aE (.un K) (.un K2)=(-1,[]):=λK K2=>by unfold dP fR;simp[zK]
  obtain⟨Y',ek,post⟩:=yR n W Z.I hT h1 (λu hu=>hF.regs hu) (bs:=vs) (t:=t') (.inr ⟨K2,h3,hT2.rows⟩) (.inr ⟨K2,h3,hT2.rows,oA hT2.atom λu hu=>hF2.regs hu⟩) Z.b1 Z.b2 Z.b3 Z.b4 Z.b5 Z.htb;rw[hz,c7 W,sO n Z (s':=s') (t':=t') (z:=-1) (q:=false) (a:=.un K) (b:=.un K2) (by decide) h1 h3 rfl rfl h11s (by rw[hz]) (λ_=>by rw[hz];rfl) (λ_=>rfl)]at e;exact yS n Z (e.trans (aq4 n Z (by decide) ek)) post
theorem bN5 (n:Nat)(W:RW Y tb r rs)(I:RI tb rs)(hm:rs.aE=1∨rs.aE=2∨rs.aE=4){s:Nat}{A B:Side}(hs:KdS tb s A)(ht:KdS tb t B)
  (b1:rs.a8 < 17000) (b2:rs.bS < 40) (b3:rs.aU.length < 68000) (b4:rs.bI.length < 68000) (b5:rs.aN=[]) (htb:tb.length < 80000) :
  ∃Y',aD (n+18) (.fn 110 2) [.ref r,.int s,.int t] Y=some (.bool (i5 rs.aE A B).1,Y')∧eG tb r rs (i5 rs.aE A B) Y Y':=by
 show ar1 Y tb r rs n s t (i5 rs.aE A B);have Z:AskAt Y tb r rs:=⟨W,I,hm,b1,b2,b3,b4,b5,htb⟩;clear b1 b2 b3 b4 htb;cases A with
 | top x=>
  cases B with
  | top y=>
   obtain⟨ha,hx⟩:=hs;obtain⟨hb,hy⟩:=ht;obtain⟨ox,rx⟩:=yA hx;obtain⟨oy,ry⟩:=yA hy;exact aI9 n Z ha hb ox oy (by rw[rx];exact zE ha) (by rw[ry];exact zE hb) (by rw[rx,ry];rfl)
  | term us=>
   obtain⟨K,hT,hF⟩:=ht;rcases hT.at_ with⟨u,rfl,rfl,h1,h2⟩ | ⟨h1,h2⟩
   ·obtain⟨ha,hx⟩:=hs;obtain⟨ox,rx⟩:=yA hx;exact aI9 n Z ha h1 ox (mQ h2) (by rw[rx];exact zE ha) (hF.regs zS) (by rw[rx];exact aT9 hm hx h2)
   ·exact ba4 n Z hs hT hF h1
 | term us=>
  obtain⟨K,hT,hF⟩:=hs;cases B with
  | top y=>
   rcases hT.at_ with⟨u,rfl,rfl,h1,h2⟩ | ⟨h1,h2⟩
   ·obtain⟨hb,hy⟩:=ht;obtain⟨oy,ry⟩:=yA hy;exact aI9 n Z h1 hb (mQ h2) oy (hF.regs zS) (by rw[ry];exact zE hb) (by rw[ry];exact ae3 hm hy h2)
   ·exact ba3 n Z hT hF h1 ht
  | term vs=>
   obtain⟨K2,hT2,hF2⟩:=ht;rcases hT.at_ with⟨u,rfl,rfl,h1,h2⟩ | ⟨h1,h2⟩
   ·rcases hT2.at_ with⟨v,rfl,rfl,h3,h4⟩ | ⟨h3,h4⟩
    ·exact aI9 n Z h1 h3 (mQ h2) (mQ h4) (hF.regs zS) (hF2.regs zS) (by show _=bT rs.aE [u] [v];rw[ao2,nM])
    ·obtain⟨Y',rs',e,W',I',F',m',d',l',k',n',_,tr2⟩:=ap8 (n+5) W I h1 h2 (hF.regs zS) h3 hT2.rows (oA hT2.atom λu hu=>hF2.regs hu) (λq _=>by rw[b5];simp) (by have:=Z.b1;lia) (by have:=Z.b2;lia) (by have:=Z.b3;lia) (by have:=Z.b4;lia) (by rw[b5];simp) Z.htb;rw[←ao2]at e n';exact⟨Y',e,rs',W',I',F',m',d',by lia,by lia,n',(tr2 b5).1,(tr2 b5).2⟩
   ·exact bo4 n Z hT hF h1 hT2 hF2
end
def At:=Fin 19
abbrev At.of (n:Fin 19):At:=n
def At.eA:=At.of 0
def At.undef:=At.of 1
def At.n1:=At.of 2
def At.void:=At.of 3
def At.num:=At.of 4
def At.null:=At.of 5
def At.sa:=At.of 6
def At.str:=At.of 7
def At.eB:=At.of 8
def At.eC:=At.of 9
def At.tP:=At.of 10
def At.tQ:=At.of 11
def At.ff:=At.of 12
def At.tt:=At.of 13
def At.n2:=At.of 14
def At.sb:=At.of 15
def At.n7:=At.of 16
def At.gX:=At.of 17
def At.obj:=At.of 18
instance:DecidableEq At:=inferInstanceAs (DecidableEq (Fin 19))
def q4 (w:String)(v:V)(b n:String):V:=.tup [.str (S w),v,.str (S b),.str (S n)]
def q3 (w:String)(v:V)(b:String):V:=.tup [.str (S w),v,.str (S b)]
def cO (a:At):V:=[q4 "num" (.int 1) "E" "A",q4 "undef" (.int 0) "" "",q4 "num" (.int 1) "" "",q4 "void" (.int 0) "" "",q4 "num" .none "" "",q4 "null" (.int 0) "" "",q4 "text" (.str (S "a")) "" "",q4 "text" .none "" "",q4 "num" (.int 2) "E" "B",q4 "num" (.int 1) "E" "C",q4 "text" (.str (S "a")) "T" "P",q4 "text" (.str (S "b")) "T" "Q",q4 "truth" (.int 0) "" "",q4 "truth" (.int 1) "" "",q4 "num" (.int 2) "" "",q4 "text" (.str (S "b")) "" "",q4 "num" (.int 7) "" "",q4 "num" (.int 1) "G" "X",q4 "object" (.int 0) "" ""].getD a.1 .none
def bX:List At:=[.eA,.undef,.n1,.void,.num,.null,.sa,.str,.eB,.eC,.tP,.tQ,.ff,.tt,.n2,.sb,.n7,.gX,.obj]
theorem cC (a:At):a∈bX:=zE ((by nofun:∀n,(h:n < 19)→bX[n]?=some (At.of ⟨n,h⟩)) a.1 a.2)
theorem l5 {α:Type}{f g:At→α}(a:At)(h:bX.map f=bX.map g):f a=g a:=List.map_inj_left.mp h a (cC a)
theorem At.cs {p:At→Prop}(eA:p .eA)(undef:p .undef)(n1:p .n1)(void:p .void)(num:p .num)(null:p .null)(sa:p .sa)(str:p .str)(eB:p .eB)(eC:p .eC)(tP:p .tP)(tQ:p .tQ)(ff:p .ff)(tt:p .tt)(n2:p .n2)(sb:p .sb)(n7:p .n7)(gX:p .gX)(obj:p .obj)(a:At):p a:=((List.forall_mem_cons.mpr ⟨eA,List.forall_mem_cons.mpr ⟨undef,List.forall_mem_cons.mpr ⟨n1,List.forall_mem_cons.mpr ⟨void,List.forall_mem_cons.mpr ⟨num,List.forall_mem_cons.mpr ⟨null,List.forall_mem_cons.mpr ⟨sa,List.forall_mem_cons.mpr ⟨str,List.forall_mem_cons.mpr ⟨eB,List.forall_mem_cons.mpr ⟨eC,List.forall_mem_cons.mpr ⟨tP,List.forall_mem_cons.mpr ⟨tQ,List.forall_mem_cons.mpr ⟨ff,List.forall_mem_cons.mpr ⟨tt,List.forall_mem_cons.mpr ⟨n2,List.forall_mem_cons.mpr ⟨sb,List.forall_mem_cons.mpr ⟨n7,List.forall_mem_cons.mpr ⟨gX,List.forall_mem_cons.mpr ⟨obj,λ_ h=>absurd h List.not_mem_nil⟩⟩⟩⟩⟩⟩⟩⟩⟩⟩⟩⟩⟩⟩⟩⟩⟩⟩⟩):∀a∈bX,p a) a (cC a)
def dY:List V:=[q3 "num" (.int 0) "",q3 "num" (.int 1) "",q3 "num" (.int 2) "",q3 "num" (.int 7) "",q3 "num" (.int 1) "E",q3 "num" (.int 2) "E",q3 "num" (.int 1) "G"]
def eI:List V:=[q3 "text" (.str (S "")) "",q3 "text" (.str (S "a")) "",q3 "text" (.str (S "b")) "",q3 "text" (.str (S "a")) "T",q3 "text" (.str (S "b")) "T"]
def lH (a:At):List V:=[[q3 "num" (.int 1) "E"],[q3 "undef" (.int 0) ""],[q3 "num" (.int 1) ""],[q3 "void" (.int 0) "",q3 "undef" (.int 0) ""],dY,[q3 "null" (.int 0) ""],[q3 "text" (.str (S "a")) ""],eI,[q3 "num" (.int 2) "E"],[q3 "num" (.int 1) "E"],[q3 "text" (.str (S "a")) "T"],[q3 "text" (.str (S "b")) "T"],[q3 "truth" (.int 0) ""],[q3 "truth" (.int 1) ""],[q3 "num" (.int 2) ""],[q3 "text" (.str (S "b")) ""],[q3 "num" (.int 7) ""],[q3 "num" (.int 1) "G"],[q3 "object" (.int 0) ""]].getD a.1 []
def a9 (as:List At):V:=.lst (as.map cO)
def vals (as:List At):List V:=as.flatMap lH
def c5:V→V
 | .tup [a,b,c]=>.tup [a,b,.str (S "")]
 | v=>v
def bw0:V→Bool
 | .int _=>true
 | .str x=>PyData.strOk x
 | _=>false
def bX7 (w x b:V):Bool:=match w with
 | .str w=>match b with
  | .str b=>PyData.strOk w&&(bw0 x&&PyData.strOk b)
  | _=>false
 | _=>false
def kO:V→Bool
 | .tup xs=>match xs with
  | [w,x,b]=>bX7 w x b
  | _=>false
 | _=>false
def g6 (v:V)(vs:List V):Bool:=vs.any λy=>eqP y v
section
variable {Y Y':H}{tb tb':List Row}{t n r:Nat}{rs:RS}{call:CT}
theorem bD3 (a:At):(lH a).all kO=true:=by apply l5 a;ext
theorem lG {as:List At}{v:V}(h:v∈vals as):kO v=true:=by
 obtain⟨a,_,h⟩:=List.mem_flatMap.mp h;exact zA (bD3 a) v h
theorem bv9 {w x b:V}(h:bX7 w x b=true):∃w' b',w=.str w'∧b=.str b'∧bw0 x=true∧PyData.strOk w'=true∧PyData.strOk b'=true:=by
 cases w
 case str w=>
  cases b
  case str b=>
   obtain⟨h1,h2⟩:=zB h;obtain⟨h2,h3⟩:=zB h2;exact⟨w,b,rfl,rfl,h2,h1,h3⟩
  all_goals exact oN h
 all_goals exact oN h
theorem aB1 {v:V}(h:kO v=true):∃w x b,v=.tup [.str w,x,.str b]∧bw0 x=true∧PyData.strOk w=true∧PyData.strOk b=true:=by
 cases v
 case tup xs=>
  rcases xs with _ | ⟨w,_ | ⟨x,_ | ⟨b,_ | ⟨_,_⟩⟩⟩⟩
  case cons.cons.cons.nil=>
   obtain⟨w',b',rfl,rfl,h1⟩:=bv9 h;exact⟨w',x,b',rfl,h1⟩
  all_goals exact oN h
 all_goals exact oN h
theorem bH6 {x:V}(h:bw0 x=true):(∀Y,aA x Y=some (x,Y))∧dO 8 x=true:=by
 cases x<;>first | exact oN h | exact⟨λ_=>rfl,h⟩ | exact⟨λ_=>rfl,rfl⟩
theorem rX {v:V}(h:kO v=true):∃w b x,v=.tup [.str w,x,.str b]∧(∀Y,aA x Y=some (x,Y))∧dO 9 v=true∧dO 9 (c5 v)=true:=by
 obtain⟨w,x,b,rfl,hx,hw,hb⟩:=aB1 h;obtain⟨hf,hd⟩:=bH6 hx;refine⟨w,b,x,rfl,hf,?_,?_⟩
 ·show(PyData.strOk w&&(dO 8 x&&(PyData.strOk b&&true)))=true;rw[hw,hd,hb];rfl
 ·show(PyData.strOk w&&(dO 8 x&&(PyData.strOk (S "")&&true)))=true;rw[hw,hd];ext
theorem w6 (n:Nat){v:V}(h:kO v=true):aD (n+1) (.fn 144 0) [v] Y=some (c5 v,Y):=by
 obtain⟨w,b,x,rfl,hx,_,_⟩:=rX h;rw[ai4];unfold y5;rw[st (show aJ (.int 0) (.tup [.str w,x,.str b]) Y=some (.str w,Y)from rfl),st (be0 _),st (show aJ (.int 1) (.tup [.str w,x,.str b]) Y=some (x,Y)from rfl),st (hx Y)];rfl
theorem nP {v:V}(h:kO v=true):kO (c5 v)=true:=by
 obtain⟨w,x,b,rfl,hx,hw,_⟩:=aB1 h;show(PyData.strOk w&&(bw0 x&&PyData.strOk (S "")))=true;rw[hw,hx];ext
theorem z5:∀{vs:List V},(∀v∈vs,kO v=true)→fM 9 vs=true
 | [],_=>rfl
 | v::vs,h=>by
  show(dO 9 v&&fM 9 vs)=true;obtain⟨_,_,_,_,_,d,_⟩:=rX (h v zS);rw[d,z5 λv hv=>h v (zC _ hv)];rfl
theorem pN {v:V}{vs:List V}(h:kO v=true)(hs:∀v∈vs,kO v=true):aK .In v (.lst vs) Y=some (g6 v vs,Y):=by
 obtain⟨_,_,_,_,_,d,_⟩:=rX h;show bL (inL v vs) Y=_;unfold inL;rw[d,z5 hs];rfl
theorem aJ5 (a:At){o:Nat}{xs:List V}{ρ:LE}(ho:Y[o]?=some (.list xs))(hl:xs.length < 90000)(h1:ρ (S "out")=some (.ref o))(h2:ρ (S "store")=some (.tup (dY++eI))) :
  ∃ρ',ρ' (S "out")=some (.ref o)∧ρ' (S "store")=some (.tup (dY++eI))∧∀k,cE call (cO a) ρ k Y=k ρ' (Y.set o (.list (xs++lH a))):=by
 have mo:∀{ys:List V},bF (S "append") (.ref o) (Y.set o (.list ys))=some (.li,Y.set o (.list ys)):=dV (cS ho) (by ext);have up:∀(w v b nm:V),upd (upd (upd (upd ρ (S "word") w) (S "value") v) (S "brand") b) (S "name") nm (S "out")=some (.ref o)∧upd (upd (upd (upd ρ (S "word") w) (S "value") v) (S "brand") b) (S "name") nm (S "store")=some (.tup (dY++eI)):=λw v b nm=>by
  constructor
  ·rw[aI (by nofun),aI (by nofun),aI (by nofun),aI (by nofun)];exact h1
  ·rw[aI (by nofun),aI (by nofun),aI (by nofun),aI (by nofun)];exact h2
 have plain:∀(w:String) (v:V) (b nm:String),cE call (q4 w v b nm) ρ=(λk=>aQ (ρ (S "out")) λr84=>aB (bF (S "append") r84) λm85=>cI (cG m85) (q3 w v b) λf89=>aB (bD call m85 (S "append") r84 [f89]) λv90=>
   k (upd (upd (upd (upd ρ (S "word") (.str (S w))) (S "value") v) (S "brand") (.str (S b))) (S "name") (.str (S nm))))→∃ρ',ρ' (S "out")=some (.ref o)∧ρ' (S "store")=some (.tup (dY++eI))∧∀k,cE call (q4 w v b nm) ρ k Y=k ρ' (Y.set o (.list (xs++[q3 w v b]))):=λw v b nm e=>by
  refine⟨(upd (upd (upd (upd ρ (S "word") (.str (S w))) (S "value") v) (S "brand") (.str (S b))) (S "name") (.str (S nm))),(up _ _ _ _).1,(up _ _ _ _).2,λk=>?_⟩;rw[e];show(aQ (ρ (S "out")) λr84=>aB (bF (S "append") r84) λm85=>cI (cG m85) (q3 w v b) λf89=>aB (bD call m85 (S "append") r84 [f89]) λv90=>
   k (upd (upd (upd (upd ρ (S "word") (.str (S w))) (S "value") v) (S "brand") (.str (S b))) (S "name") (.str (S nm)))) Y=_
  rw[h1,aF,st (dV ho (by ext)),jR,st (lZ ho (by lia))]
 have whole:∀(w:String),cE call (q4 w .none "" "") ρ=(λk=>aQ (ρ (S "out")) λr66=>aB (bF (S "extend") r66) λm67=>aQ (ρ (S "store")) λr68=>aB (c8 r68) λxs69=>aB (bK (still xs69 (aP r68)) (gZ call (.str (S w))) xs69) λys73=>
   cI (cG m67) (.lst ys73) λf74=>aB (bD call m67 (S "extend") r66 [f74]) λv75=>k (upd (upd (upd (upd ρ (S "word") (.str (S w))) (S "value") .none) (S "brand") (.str (S ""))) (S "name") (.str (S ""))))→
   ∀vs,vs.length < 1000→(∀Y,bK (ret ()) (gZ call (.str (S w))) (dY++eI) Y=some (vs,Y))→∃ρ',ρ' (S "out")=some (.ref o)∧ρ' (S "store")=some (.tup (dY++eI))∧∀k,cE call (q4 w .none "" "") ρ k Y=k ρ' (Y.set o (.list (xs++vs))):=λw e vs hvs hc=>by
  refine⟨(upd (upd (upd (upd ρ (S "word") (.str (S w))) (S "value") .none) (S "brand") (.str (S ""))) (S "name") (.str (S ""))),(up _ _ _ _).1,(up _ _ _ _).2,λk=>?_⟩;rw[e];show(aQ (ρ (S "out")) λr66=>aB (bF (S "extend") r66) λm67=>aQ (ρ (S "store")) λr68=>aB (c8 r68) λxs69=>aB (bK (still xs69 (aP r68)) (gZ call (.str (S w))) xs69) λys73=>
   cI (cG m67) (.lst ys73) λf74=>aB (bD call m67 (S "extend") r66 [f74]) λv75=>k (upd (upd (upd (upd ρ (S "word") (.str (S w))) (S "value") .none) (S "brand") (.str (S ""))) (S "name") (.str (S "")))) Y=_
  rw[h1,aF,st (dV ho (by ext)),h2,aF,st (bb2 _),st (show bK (still (dY++eI) (aP (.tup (dY++eI)))) _ _ Y=_ from hc Y),jR,st (ao5 ho (by lia) hvs)]
 induction a using At.cs
 case num=>exact whole "num" (by ext) dY (by decide) λY=>by ext
 case str=>exact whole "text" (by ext) eI (by decide) λY=>by ext
 case void=>
  refine⟨(upd (upd (upd (upd ρ (S "word") (.str (S "void"))) (S "value") (.int 0)) (S "brand") (.str (S ""))) (S "name") (.str (S ""))),(up _ _ _ _).1,(up _ _ _ _).2,λk=>?_⟩;have e:cE call (cO .void) ρ=(λk=>aQ (ρ (S "out")) λr84=>aB (bF (S "append") r84) λm85=>cI (cG m85) (q3 "void" (.int 0) "") λf89=>aB (bD call m85 (S "append") r84 [f89]) λv90=>
   aQ (ρ (S "out")) λr92=>aB (bF (S "append") r92) λm93=>cI (cG m93) (q3 "undef" (.int 0) "") λf97=>aB (bD call m93 (S "append") r92 [f97]) λv98=>
   k (upd (upd (upd (upd ρ (S "word") (.str (S "void"))) (S "value") (.int 0)) (S "brand") (.str (S ""))) (S "name") (.str (S "")))):=by ext
  rw[e];show(aQ (ρ (S "out")) λr84=>aB (bF (S "append") r84) λm85=>cI (cG m85) (q3 "void" (.int 0) "") λf89=>aB (bD call m85 (S "append") r84 [f89]) λv90=>
   aQ (ρ (S "out")) λr92=>aB (bF (S "append") r92) λm93=>cI (cG m93) (q3 "undef" (.int 0) "") λf97=>aB (bD call m93 (S "append") r92 [f97]) λv98=>
   k (upd (upd (upd (upd ρ (S "word") (.str (S "void"))) (S "value") (.int 0)) (S "brand") (.str (S ""))) (S "name") (.str (S "")))) Y=_
  rw[h1,aF,st (dV ho (by ext)),jR,st (lZ ho (by lia)),aF,st mo,jR,st (lZ (cS ho) (by simp;lia)),List.set_set,List.append_assoc];rfl
 all_goals exact plain _ _ _ _ (by ext)
theorem bB2 {α:Type}{x:Str}{f:V→M α}:aB (aA (.str x)) f=f (.str x):=rfl
theorem bB3 {α:Type}{x:Int}{f:V→M α}:aB (aA (.int x)) f=f (.int x):=rfl
theorem bB1 {α:Type}{x:List V}{f:V→M α}:aB (aA (.tup x)) f=f (.tup x):=rfl
theorem bN6 {α:Type}{a b:List V}{f:V→M α}:aB (jH .Add (.tup a) (.tup b)) f=aB (if a.length+b.length≤1000 then ret (.tup (a++b))else fail) f:=rfl
theorem hM (n:Nat)(as:List At)(hl:as.length≤20):∃Y',aD (n+1) (.fn 145 0) [a9 as] Y=some (.lst (vals as),Y')∧Fr No Y Y':=by
 refine Mine.Internal.Fl.go1 λΦ ret0=>?_;rw[ab1];have e:o9 (aD n) (a9 as) Y=(aB (bN (.list [])) λv51=>aB (bU (a9 as)) λxs52=>b9 (still xs52 (aP (a9 as))) (cE (aD n)) xs52
  (upd (upd (upd (upd (upd e0 (S "atoms") (a9 as)) (S "store") (.tup (dY.take 6))) (S "store") (.tup (dY.take 6++[q3 "num" (.int 1) "G",q3 "text" (.str (S "")) "",q3 "text" (.str (S "a")) "",q3 "text" (.str (S "b")) ""]))) (S "store") (.tup (dY++eI))) (S "out") v51) (j4 (aD n))) Y:=by
  unfold o9;simp only[↓bB2,↓bB3,↓bB1,↓bN6];rw[if_pos (by decide),cM];simp only[↓bB2,↓bB3,↓bB1,↓bN6];rw[if_pos (by decide),cM];rfl
 rw[e,st gS,st (show bU (a9 as) _=some (as.map cO,Y++[.list []])from rfl)];have hlen:∀a,(lH a).length≤7:=λa=>by induction a using At.cs<;>decide
 obtain⟨ρ',Y',⟨xs,rfl,h1,h2,h3,_⟩,e2⟩:=aH8 (enc:=cO) (w:=ret ()) (f:=cE (aD n))
  (λl ρ Y'=>∃xs,Y'=(Y++[O.list []]).set Y.length (.list xs)∧ρ (S "out")=some (.ref Y.length)∧ρ (S "store")=some (.tup (dY++eI))∧xs++vals l=vals as∧xs.length+7 * l.length≤7 * as.length) (λ_ _ _ _=>rfl)
  (λa l ρ Y' hI=>by
   obtain⟨xs,rfl,h1,h2,h3,h4⟩:=hI;have ho:((Y++[O.list []]).set Y.length (.list xs))[Y.length]?=some (.list xs):=cS k9;obtain⟨ρ',g1,g2,e⟩:=aJ5 (call:=aD n) a ho (by simp at h4;lia) h1 h2;refine⟨ρ',_,⟨xs++lH a,by rw[List.set_set],g1,g2,by rw[←h3];simp[vals],?_⟩,e⟩;have:=hlen a;simp at h4 ⊢;lia) as (upd (upd (upd (upd (upd e0 (S "atoms") (a9 as)) (S "store") (.tup (dY.take 6))) (S "store") (.tup (dY.take 6++[q3 "num" (.int 1) "G",q3 "text" (.str (S "")) "",q3 "text" (.str (S "a")) "",q3 "text" (.str (S "b")) ""]))) (S "store") (.tup (dY++eI))) (S "out") (.ref Y.length)) (Y++[.list []])
  ⟨[],by rw[qI k9],bE,by rw[aI (by nofun),bE],rfl,by simp⟩
 rw[show ∀k,b9 (still (as.map cO) (aP (a9 as))) (cE (aD n)) (as.map cO) _ k _=_ from e2];unfold j4;have ho:((Y++[O.list []]).set Y.length (.list xs))[Y.length]?=some (.list xs):=cS k9;have hx:xs=vals as:=by rw[←h3];simp[vals]
 rw[h1,aF,ao0 ho,hx];exact ret0 _ ⟨_,rfl,((Fr.app (P:=No)).setNew zR).setNew zR⟩
end
def eE (near:Bool)(as bs:List At):Bool:=(vals as).all λv=>g6 v (vals bs)||(near&&g6 (c5 v) (vals bs))
def eY (a:At):Bool:=decide (a∈[At.num,.str])
def g8 (a:At):V:=match cO a with | .tup (w::_)=>w | _=>.none
def bP (as:List At):List At:=as.filter λa=>eY a||!(as.any λb=>eY b&&eqP (g8 b) (g8 a))
def d9 (k s t a l o:V):V:=.dct [.str (S "kind"),.str (S "still"),.str (S "top"),.str (S "atoms"),.str (S "left"),.str (S "ones")] [k,s,t,a,l,o]
section
variable {Y Y':H}{tb tb':List Row}{t n r:Nat}{rs:RS}{call:CT}
theorem aC8 {γ:Type}{enc:γ→V}{g:γ→V}{f:V→M (Option V)}{Y:H}:∀(l:List γ),(∀x∈l,f (enc x) Y=some (some (g x),Y))→bK (ret ()) f (l.map enc) Y=some (l.map g,Y):=λl h=>by
 have:=yP (enc:=enc) (g:=g) (c:=λ_=>true) (f:=f) (Y:=Y) l λx hx=>by rw[h x hx];rfl
 rw[List.filter_eq_self.mpr (λ_ _=>rfl)]at this;exact this
theorem aD8 (bs:List Bool):jG "all" [.lst (bs.map .bool)] Y=some (.bool (bs.all id),Y):=by
 have hb:∀l:List Bool,iZ (l.map .bool)=some l:=by
  intro l
  induction l with
  | nil=>rfl
  | cons b l ih=>show(aq2 (.bool b)).bind (λi=>(iZ (l.map .bool)).map (i::·))=_;rw[ih];rfl
 show(aB (u6 (.lst (bs.map .bool))) λbs=>ret (V.bool (bs.all jG.id_))) Y=_;show aB (bL (iZ (bs.map .bool))) (λbs=>ret (V.bool (bs.all jG.id_))) Y=_;rw[hb];show some (V.bool (bs.all jG.id_),Y)=_;have:∀l:List Bool,l.all jG.id_=l.all id:=by
  intro l;induction l with
  | nil=>rfl
  | cons b l ih=>rw[List.all_cons,List.all_cons,ih];rfl
 rw[this]
theorem bo7 (bs:List Bool):jG "any" [.lst (bs.map .bool)] Y=some (.bool (bs.any id),Y):=by
 have hb:∀l:List Bool,iZ (l.map .bool)=some l:=by
  intro l
  induction l with
  | nil=>rfl
  | cons b l ih=>show(aq2 (.bool b)).bind (λi=>(iZ (l.map .bool)).map (i::·))=_;rw[ih];rfl
 show(aB (u6 (.lst (bs.map .bool))) λbs=>ret (V.bool (bs.any jG.id_))) Y=_;show aB (bL (iZ (bs.map .bool))) (λbs=>ret (V.bool (bs.any jG.id_))) Y=_;rw[hb];show some (V.bool (bs.any jG.id_),Y)=_;have:∀l:List Bool,l.any jG.id_=l.any id:=by
  intro l;induction l with
  | nil=>rfl
  | cons b l ih=>rw[List.any_cons,List.any_cons,ih];rfl
 rw[this]
theorem rO {v:V}(h:kO v=true):aA v Y=some (v,Y):=by
 obtain⟨w,b,x,rfl,_⟩:=rX h;rfl
theorem aR5 (n:Nat)(near:Bool)(as bs:List At)(h1:as.length≤20)(h2:bs.length≤20):∃Y',aD (n+2) (.fn 146 0) [a9 as,a9 bs,.bool near] Y=some (.bool (eE near as bs),Y')∧Fr No Y Y':=by
 rw[aa4];unfold wA;obtain⟨Y1,e1,F1⟩:=hM (Y:=Y) n bs h2;obtain⟨Y2,e2,F2⟩:=hM (Y:=Y1) n as h1;rw[st (show aA (a9 bs) Y=some (a9 bs,Y)from rfl),st e1,st (show aA (a9 as) Y1=some (a9 as,Y1)from rfl),st e2,st (r6 _)];have hc:=aC8 (enc:=λv:V=>v) (g:=λv=>V.bool (g6 v (vals bs)||(near&&g6 (c5 v) (vals bs)))) (f:=j3 (aD (n+1)) (.lst (vals bs)) (.bool near)) (Y:=Y2) (vals as) (λv hv=>by
  have hv':=lG hv;have hs:∀v∈vals bs,kO v=true:=λv h=>lG h;unfold j3;rw[st (bD5 (q:=near&&g6 (c5 v) (vals bs)) (pN hv' hs) λ_=>by
   rw[aC,st (bJ _)];cases near with
   | false=>rfl
   | true=>rw[dA,aC,aC,st (rO hv'),aC,st (w6 n hv'),st (pN (nP hv') hs)];rfl)]
  rfl)
 rw[List.map_id']at hc;rw[st (show bK (still (vals as) (aP (.lst (vals as)))) _ (vals as) Y2=_ from hc),show(vals as).map (λv=>V.bool (g6 v (vals bs)||(near&&g6 (c5 v) (vals bs))))=((vals as).map λv=>g6 v (vals bs)||(near&&g6 (c5 v) (vals bs))).map V.bool by rw[List.map_map];rfl,st (aD8 _),bW];refine⟨Y2,?_,F1.trans F2⟩;unfold eE;rw[List.all_map];rfl
theorem ad7 (a:At):dO 9 (g8 a)=true:=by apply l5 a;ext
theorem bU7 (n:Nat)(as:List At):aD (n+1) (.fn 141 0) [a9 as] Y=some (a9 (bP as),Y):=by
 rw[at9];unfold ak0;have h1:=yP (enc:=cO) (g:=g8) (c:=eY) (f:=tS (aD n)) (Y:=Y) as (λa _=>by apply l5 a;ext);have h2:=yP (enc:=cO) (g:=cO) (c:=λa=>eY a||!(as.any λb=>eY b&&eqP (g8 b) (g8 a))) (f:=nB (aD n) ((as.filter eY).map g8)) (Y:=Y) as (λa _=>by
  have e1:(aB (aJ (.int 1) (cO a)) λv9=>aK .Is v9 V.none) Y=some (eY a,Y):=by apply l5 a;ext
  have e2:(aB (aJ (.int 0) (cO a)) λv11=>aK .NotIn v11 (.lst ((as.filter eY).map g8))) Y=some (!(as.any λb=>eY b&&eqP (g8 b) (g8 a)),Y):=by
   rw[st (show aJ (.int 0) (cO a) Y=some (g8 a,Y)from by apply l5 a;ext)];show aB (bL (inL (g8 a) ((as.filter eY).map g8))) (λc=>ret !c) Y=_;have hd:∀l:List At,fM 9 (l.map g8)=true:=by
    intro l;induction l with
    | nil=>rfl
    | cons x l ih=>show(dO 9 (g8 x)&&fM 9 (l.map g8))=true;rw[ad7,ih];rfl
   unfold inL;rw[ad7,hd,List.any_map,List.any_filter];rfl
  unfold nB;rw[st (oX e1 λ_=>l9 e2)];cases (eY a||!(as.any λb=>eY b&&eqP (g8 b) (g8 a)))<;>rfl)
 rw[show c8 (a9 as)=ret (as.map cO)from rfl,cM,st (show bK (still (as.map cO) (aP (a9 as))) _ (as.map cO) Y=_ from h1),cM,st (show bK (still (as.map cO) (aP (a9 as))) _ (as.map cO) Y=_ from h2)];rfl
theorem aI7 (n:Nat)(k s t o:V)(as:List At):aD (n+2) (.fn 142 0) [k,s,t,a9 as,o] Y=some (d9 k s t (a9 as) (a9 (bP as)) o,Y):=by
 rw[as3];unfold ai2;rw[st (show aA (a9 as) Y=some (a9 as,Y)from rfl),st (bU7 n as)];rfl
theorem aI2 {k s t a l o:V}:aJ (.str (S "kind")) (d9 k s t a l o) Y=some (k,Y):=by ext
theorem be8 {k s t a l o:V}:aJ (.str (S "still")) (d9 k s t a l o) Y=some (s,Y):=by ext
theorem bz0 {k s t a l o:V}:aJ (.str (S "top")) (d9 k s t a l o) Y=some (t,Y):=by ext
theorem ad4 {k s t a l o:V}:aJ (.str (S "atoms")) (d9 k s t a l o) Y=some (a,Y):=by ext
theorem bT4 {k s t a l o:V}:aJ (.str (S "left")) (d9 k s t a l o) Y=some (l,Y):=by ext
theorem bT3 {k s t a l o:V}:aJ (.str (S "ones")) (d9 k s t a l o) Y=some (o,Y):=by ext
theorem bZ4 {k s t a l o:V}:aA (d9 k s t a l o) Y=some (d9 k s t a l o,Y):=rfl
def rL (a:At):Bool:=decide (a∈[At.eA,.eB,.eC,.gX])
def bt6 (a:At):Bool:=decide (a∈[At.n1,.n2,.n7,.num])
def jT (a:At):V:=match cO a with | .tup [_,v,_,_]=>v | _=>.none
def aH2 (a:At)(bs:List At):Bool:=bt6 a&&((bs.filter rL).any (λb=>eqP (jT b) (jT a))||(eY a&&!(bs.filter rL).isEmpty))
def l8 (a:At)(bs:List At):Bool×Bool:=if eE true [a] bs then(true,false)else if aH2 a bs then(true,true)else(false,false)
def gB (ls bs:List At):Bool×List Int:=if ls.all λa=>(l8 a bs).1 then(true,if ls.any λa=>(l8 a bs).2 then[10]else[])else(false,[])
theorem bl0 (a:At):aK .Is (jT a) V.none Y=some (eY a,Y):=by apply l5 a;ext
theorem ay1 (a:At):dO 9 (jT a)=true:=by apply l5 a;ext
theorem aP5 (a:At):aA (cO a) Y=some (cO a,Y):=by apply l5 a;ext
theorem aD5 {call:CT}(a:At):pX call (cO a) Y=some (!bt6 a,Y):=by apply l5 a;ext
theorem bd3 (a:At):aJ (.int 1) (cO a) Y=some (jT a,Y):=by apply l5 a;ext
theorem bA8 (n:Nat){sk ss st' so tk ts tt to tl:V}{as ls bs:List At}(h1:ls.length≤20)(h2:bs.length≤20) :
  ∃Y',aD (n+3) (.fn 147 0) [d9 sk ss st' (a9 as) (a9 ls) so,d9 tk ts tt (a9 bs) tl to] Y=some (.tup [.bool (gB ls bs).1,.lst ((gB ls bs).2.map .int)],Y')∧Fr No Y Y':=by
 rw[ab3];unfold wF;rw[st bT4,st (show bU (a9 ls) Y=some (ls.map cO,Y)from rfl)];have key:=ax5 (enc:=cO) (w:=ret ()) (f:=cT (aD (n+2)))
  (λl ρ Y'=>Fr No Y Y'∧∃nt,ρ (S "t")=some (d9 tk ts tt (a9 bs) tl to)∧ρ (S "noted")=some (.bool nt)∧(l.all (λa=>(l8 a bs).1)=ls.all λa=>(l8 a bs).1)∧(nt||l.any λa=>(l8 a bs).2)=ls.any λa=>(l8 a bs).2)
  (λv Y'=>v=.tup [.bool false,.lst []]∧(ls.all λa=>(l8 a bs).1)=false∧Fr No Y Y') (λ_ _ _ _=>rfl)
  (λa l ρ Y' hI=>by
   obtain⟨F',nt,g1,g2,g3,g4⟩:=hI;obtain⟨Y1,e1,F1⟩:=aR5 (Y:=Y') n true [a] bs (by simp) h2;have eT1:j5 (aD (n+2)) (cO a) ρ Y'=some (!eE true [a] bs,Y1):=by
    unfold j5;rw[g1,aC,st (aP5 a),aF,aC,st ad4,aC,st (show aA (a9 bs) Y'=some (a9 bs,Y')from rfl),aC,st (show aD (n+2) (.fn 146 0) [.lst [cO a],a9 bs,.bool true] Y'=_ from e1),st (bJ _)];rfl
   rw[List.all_cons]at g3;rw[List.any_cons]at g4;cases hw:eE true [a] bs with
   | true=>
    have ho:l8 a bs=(true,false):=by unfold l8;rw[if_pos hw]
    rw[ho,Bool.true_and]at g3;rw[ho,Bool.false_or]at g4;refine .inl ⟨upd ρ (S "atom") (cO a),Y1,⟨F'.trans F1,nt,by rw[aI (by nofun)];exact g1,by rw[aI (by nofun)];exact g2,g3,g4⟩,λk=>?_⟩;unfold cT;rw[st eT1,hw];rfl
   | false=>
    cases hn:bt6 a with
    | false=>
     have ho:l8 a bs=(false,false):=by unfold l8 aH2;rw[hn,hw];rfl
     rw[ho,Bool.false_and]at g3;refine .inr ⟨_,Y1,⟨rfl,g3.symm,F'.trans F1⟩,λk=>?_⟩;unfold cT;rw[st eT1,hw,show(!false)=true from rfl,if_pos rfl,st (aD5 a),hn];rfl
    | true=>
     have hc:=yP (enc:=cO) (g:=jT) (c:=rL) (f:=pZ (aD (n+2))) (Y:=Y1) bs (λb _=>by apply l5 b;ext);have hd:∀l:List At,fM 9 (l.map jT)=true:=by
      intro l;induction l with
      | nil=>rfl
      | cons x l ih=>show(dO 9 (jT x)&&fM 9 (l.map jT))=true;rw[ay1,ih];rfl
     have eIn:aK .In (jT a) (.lst ((bs.filter rL).map jT)) Y1=some ((bs.filter rL).any (λb=>eqP (jT b) (jT a)),Y1):=by
      show bL (inL (jT a) ((bs.filter rL).map jT)) Y1=_;unfold inL;rw[ay1,hd,List.any_map];rfl
     have eT4:pW (aD (n+2)) (cO a) ((bs.filter rL).map jT) Y1=some (!((bs.filter rL).any (λb=>eqP (jT b) (jT a))||(eY a&&!(bs.filter rL).isEmpty)),Y1):=by
      refine aK2 (oX (by rw[st (bd3 a),eIn]) λ_=>l9 (mA (by rw[st (bd3 a)];exact bl0 a) λ_=>j1 ?_));rw[ay2];cases bs.filter rL<;>rfl
     have go:∀k,cT (aD (n+2)) (cO a) ρ k Y'=(if !((bs.filter rL).any (λb=>eqP (jT b) (jT a))||(eY a&&!(bs.filter rL).isEmpty))then(aA (.tup [.bool false,.lst []]))
       else k (upd (upd (upd ρ (S "atom") (cO a)) (S "members") (.lst ((bs.filter rL).map jT))) (S "noted") (.bool true))) Y1:=λk=>by
      unfold cT;rw[st eT1,hw,show(!false)=true from rfl,if_pos rfl,st (aD5 a),hn,show(!true)=false from rfl,if_neg (by simp),g1,aF,st ad4,st (show c8 (a9 bs) Y1=some (bs.map cO,Y1)from rfl),st (show bK (still (bs.map cO) (aP (a9 bs))) _ (bs.map cO) Y1=_ from hc),st eT4]
     have hl:aH2 a bs=((bs.filter rL).any (λb=>eqP (jT b) (jT a))||(eY a&&!(bs.filter rL).isEmpty)):=by unfold aH2;rw[hn];rfl
     rw[←hl]at go;cases hx:aH2 a bs with
     | true=>
      have ho:l8 a bs=(true,true):=by unfold l8;rw[hw,hx];rfl
      rw[ho,Bool.true_and]at g3;rw[ho,Bool.true_or,Bool.or_true]at g4;refine .inl ⟨upd (upd (upd ρ (S "atom") (cO a)) (S "members") (.lst ((bs.filter rL).map jT))) (S "noted") (.bool true),Y1,⟨F'.trans F1,true,by rw[aI (by nofun),aI (by nofun),aI (by nofun)];exact g1,bE,g3,by rw[←g4];rfl⟩,λk=>?_⟩;rw[go,hx];rfl
     | false=>
      have ho:l8 a bs=(false,false):=by unfold l8;rw[hw,hx];rfl
      rw[ho,Bool.false_and]at g3;refine .inr ⟨_,Y1,⟨rfl,g3.symm,F'.trans F1⟩,λk=>?_⟩;rw[go,hx];rfl) ls
  (upd (upd (upd e0 (S "s") (d9 sk ss st' (a9 as) (a9 ls) so)) (S "t") (d9 tk ts tt (a9 bs) tl to)) (S "noted") (.bool false)) Y
  ⟨Fr.rfl,false,by rw[aI (by nofun),bE],bE,rfl,by simp⟩
 rcases key with⟨ρ',Y',⟨F',nt,g1,g2,g3,g4⟩,e⟩ | ⟨v,Y',⟨rfl,hf,F'⟩,e⟩
 ·rw[show ∀k,b9 (still (ls.map cO) (aP (a9 ls))) (cT (aD (n+2))) (ls.map cO) _ k Y=k ρ' Y' from e];unfold pY;refine⟨Y',?_,F'⟩;unfold gB;rw[←g3,←g4];simp only[List.all_nil,List.any_nil,Bool.or_false,if_true];rw[g2,aF,aC,st (bJ _)];cases nt<;>rfl
 ·rw[show ∀k,b9 (still (ls.map cO) (aP (a9 ls))) (cT (aD (n+2))) (ls.map cO) _ k Y=_ from e];refine⟨Y',?_,F'⟩;unfold gB;rw[hf];rfl
end
inductive Tp where
 | no | any | unk | nev | err
def Tp.al:List Tp:=[.no,.any,.unk,.nev,.err]
theorem Tp.ix (a:Tp):Tp.al[a.ctorIdx]?=some a:=by cases a<;>rfl
instance:DecidableEq Tp:=λa b=>decidable_of_iff (a.ctorIdx=b.ctorIdx) ⟨λh=>Option.some.inj ((Tp.ix a).symm.trans (h▸Tp.ix b)),congrArg _⟩
inductive How where
 | plain | units | assign | subtype
def How.al:List How:=[.plain,.units,.assign,.subtype]
theorem How.ix (a:How):How.al[a.ctorIdx]?=some a:=by cases a<;>rfl
instance:DecidableEq How:=λa b=>decidable_of_iff (a.ctorIdx=b.ctorIdx) ⟨λh=>Option.some.inj ((How.ix a).symm.trans (h▸How.ix b)),congrArg _⟩
def dH:Tp→V | .no=>.str (S "") | .any=>.str (S "any") | .unk=>.str (S "unknown") | .nev=>.str (S "never") | .err=>.str (S "error")
def rM:How→V | .plain=>.str (S "plain") | .units=>.str (S "units") | .assign=>.str (S "assign") | .subtype=>.str (S "subtype")
def qE:Tp→Bool | .any | .unk | .err=>true | _=>false
def fH (how:How)(s:Tp)(sa sl:List At)(t:Tp)(ta:List At):Bool×List Int:=
 if decide (how=.subtype)&&decide (s=.any)then(decide (t=.any)||decide (t=.err),[])
 else if decide (how=.units)&&(decide (s=.any)||decide (s=.err))then(qE t,[])
 else if qE t||(decide (s=.nev)||decide (s=.err))then(true,[])
 else if decide (s=.any)&&!decide (t=.nev)then(true,[1])
 else if !decide (s=.no)||!decide (t=.no)then(false,[])
 else if how=.assign then gB sl ta else(eE (!decide (how=.plain)) sa ta,[])
section
variable {Y Y':H}{tb tb':List Row}{t n r:Nat}{rs:RS}{call:CT}
def ap9 (s t:Tp):Bool:=decide (s=.no)&&decide (t=.no)
def bt2:List (Tp×Tp):=([.no,.any,.unk,.nev,.err].flatMap λs=>[.no,.any,.unk,.nev,.err].map λt=>(s,t)).filter λq=>!ap9 q.1 q.2
theorem bQ4 {α:Type}{f g:Tp→Tp→α}(s t:Tp)(h:ap9 s t=false)(e:(bt2.map λq=>f q.1 q.2)=bt2.map λq=>g q.1 q.2):f s t=g s t:=
 List.map_inj_left.mp e (s,t) (List.mem_filter.mpr ⟨by cases s<;>cases t<;>decide,by rw[h];rfl⟩)
theorem bl7 (how:How)(s t:Tp)(h:ap9 s t=false)(sk ss sa sl so tk ts ta tl to:V)(las lls lbs:List At) :
  pE call (rM how) (d9 sk ss (dH s) sa sl so) (d9 tk ts (dH t) ta tl to) Y=some (.tup [.bool (fH how s las lls t lbs).1,.lst ((fH how s las lls t lbs).2.map .int)],Y):=by
 apply bQ4 s t h;cases how<;>ext
theorem aX7 (how:How)(sk ss sa sl so tk ts ta tl to:V)(h:how≠.assign) :
  pE call (rM how) (d9 sk ss (dH .no) sa sl so) (d9 tk ts (dH .no) ta tl to) Y=(aB (aA sa) λf52=>aB (aA ta) λf54=>aB (call (.fn 146 0) [f52,f54,.bool (!decide (how=.plain))]) λv57=>aB (aA v57) λf58=>aA (.tup [f58,.lst []])) Y:=by
 cases how<;>first | exact absurd rfl h | ext
theorem aP2 (sk ss sa sl so tk ts ta tl to:V) :
  pE call (rM .assign) (d9 sk ss (dH .no) sa sl so) (d9 tk ts (dH .no) ta tl to) Y=(aB (call (.fn 147 0) [d9 sk ss (dH .no) sa sl so,d9 tk ts (dH .no) ta tl to]) λv50=>aA v50) Y:=by
 ext
theorem bA5 (n:Nat)(how:How)(s t:Tp)(sk ss so tk ts tl to:V)(sa sl ta:List At)(h1:sa.length≤20)(h2:ta.length≤20)(h3:sl.length≤20) :
  ∃Y',aD (n+4) (.fn 148 0) [rM how,d9 sk ss (dH s) (a9 sa) (a9 sl) so,d9 tk ts (dH t) (a9 ta) tl to] Y=some (.tup [.bool (fH how s sa sl t ta).1,.lst ((fH how s sa sl t ta).2.map .int)],Y')∧Fr No Y Y':=by
 rw[av6];cases hb:ap9 s t with
 | false=>exact⟨Y,bl7 how s t hb _ _ _ _ _ _ _ _ _ _ _ _ _,Fr.rfl⟩
 | true=>
  simp only[ap9,Bool.and_eq_true,decide_eq_true_eq]at hb;obtain⟨rfl,rfl⟩:=hb;by_cases ha:how=.assign
  ·subst ha;obtain⟨Y',e,F⟩:=bA8 (Y:=Y) n (sk:=sk) (ss:=ss) (st':=dH .no) (so:=so) (tk:=tk) (ts:=ts) (tt:=dH .no) (to:=to) (tl:=tl) (as:=sa) h3 h2;rw[aP2,st e];exact⟨Y',rfl,F⟩
  ·obtain⟨Y',e,F⟩:=aR5 (Y:=Y) (n+1) (!decide (how=.plain)) sa ta h1 h2;rw[aX7 how _ _ _ _ _ _ _ _ _ _ ha,st (show aA (a9 sa) Y=some (a9 sa,Y)from rfl),st (show aA (a9 ta) Y=some (a9 ta,Y)from rfl),st e];refine⟨Y',?_,F⟩;have:fH how .no sa sl .no ta=(eE (!decide (how=.plain)) sa ta,[]):=by
    unfold fH;cases how<;>first | exact absurd rfl ha | rfl
   rw[this];rfl
def iR (v:V)(right:List V)(plain:Bool):Bool:=if plain then g6 v right else g6 v right||(g6 (c5 v) right||g6 v (right.map c5))
def pH (plain:Bool)(s:Tp)(sa:List At)(t:Tp)(ta:List At):Bool:=
 if plain&&(decide (s=.nev)||decide (t=.nev))then true else if decide (s=.nev)||decide (s=.err)then true else if decide (t=.nev)then false else if !decide (s=.no)||!decide (t=.no)then true
 else(vals sa).any λv=>iR v (vals ta) plain
def bl5 (plain:Bool):V:=.str (S (if plain then "plain" else "compare"))
theorem aW1 (pl:Bool)(s t:Tp)(h:ap9 s t=false)(sk ss sa sl so tk ts ta tl to:V)(las lbs:List At) :
  q9 call (bl5 pl) (d9 sk ss (dH s) sa sl so) (d9 tk ts (dH t) ta tl to) Y=some (.bool (pH pl s las t lbs),Y):=by
 apply bQ4 s t h;cases pl<;>ext
theorem aN2 (pl:Bool)(sk ss sa sl so tk ts ta tl to:V) :
  q9 call (bl5 pl) (d9 sk ss (dH .no) sa sl so) (d9 tk ts (dH .no) ta tl to) Y=(aB (aA sa) λf20=>aB (call (.fn 145 0) [f20]) λv21=>aB (aA ta) λf23=>aB (call (.fn 145 0) [f23]) λv24=>
   if pl then aB (c8 v21) λxs26=>aB (bK (still xs26 (aP v21)) (iM call v24) xs26) λys29=>aB (jG "any" [.lst ys29]) λv30=>aA v30
   else aB (bU v21) λxs31=>b9 (still xs31 (aP v21)) (dK call) xs31 (upd (upd (upd (upd (upd e0 (S "how") (bl5 pl)) (S "s") (d9 sk ss (dH .no) sa sl so)) (S "t") (d9 tk ts (dH .no) ta tl to)) (S "left") v21) (S "right") v24) (q8 call)) Y:=by
 cases pl<;>ext
theorem bK2 (n:Nat)(pl:Bool)(s t:Tp)(sk ss sl so tk ts tl to:V)(sa ta:List At)(h1:sa.length≤20)(h2:ta.length≤20) :
  ∃Y',aD (n+3) (.fn 149 0) [bl5 pl,d9 sk ss (dH s) (a9 sa) sl so,d9 tk ts (dH t) (a9 ta) tl to] Y=some (.bool (pH pl s sa t ta),Y')∧Fr No Y Y':=by
 rw[aj9];cases hb:ap9 s t with
 | false=>exact⟨Y,aW1 pl s t hb _ _ _ _ _ _ _ _ _ _ _ _,Fr.rfl⟩
 | true=>
  simp only[ap9,Bool.and_eq_true,decide_eq_true_eq]at hb;obtain⟨rfl,rfl⟩:=hb;obtain⟨Y1,e1,F1⟩:=hM (Y:=Y) (n+1) sa h1;obtain⟨Y2,e2,F2⟩:=hM (Y:=Y1) (n+1) ta h2;have hs:∀v∈vals ta,kO v=true:=λv h=>lG h;have hs2:∀v∈(vals ta).map c5,kO v=true:=λv h=>by
   obtain⟨w,hw,rfl⟩:=zM h;exact nP (hs w hw)
  rw[aN2,st (show aA (a9 sa) Y=some (a9 sa,Y)from rfl),st e1,st (show aA (a9 ta) Y1=some (a9 ta,Y1)from rfl),st e2];have hm:pH pl .no sa .no ta=(vals sa).any λv=>iR v (vals ta) pl:=by unfold pH;cases pl<;>rfl
  rw[hm];cases pl with
  | true=>
   rw[if_pos rfl,st (r6 _)];have hc:=aC8 (enc:=λv:V=>v) (g:=λv=>V.bool (g6 v (vals ta))) (f:=iM (aD (n+2)) (.lst (vals ta))) (Y:=Y2) (vals sa) (λv hv=>by
    unfold iM;rw[st (pN (lG hv) hs)];rfl)
   rw[List.map_id']at hc;rw[st (show bK (still (vals sa) (aP (.lst (vals sa)))) _ (vals sa) Y2=_ from hc),show(vals sa).map (λv=>V.bool (g6 v (vals ta)))=((vals sa).map λv=>g6 v (vals ta)).map V.bool by rw[List.map_map];rfl,st (bo7 _),bW];refine⟨Y2,?_,F1.trans F2⟩;rw[List.any_map];rfl
  | false=>
   rw[if_neg (by simp),st (n8 _)];have key:=ax5 (enc:=λv:V=>v) (w:=ret ()) (f:=dK (aD (n+2)))
    (λl ρ Y'=>Y'=Y2∧ρ (S "right")=some (.lst (vals ta))∧(∀v∈l,v∈vals sa)∧(l.any λv=>iR v (vals ta) false)=(vals sa).any λv=>iR v (vals ta) false)
    (λv Y'=>v=.bool true∧((vals sa).any λv=>iR v (vals ta) false)=true∧Y'=Y2) (λ_ _ _ _=>rfl)
    (λv l ρ Y' hI=>by
     obtain⟨rfl,g1,g2,g3⟩:=hI;have hv:=lG (g2 v zS);rw[List.any_cons]at g3;have hc:=aC8 (enc:=λv:V=>v) (g:=c5) (f:=lQ (aD (n+2))) (Y:=Y') (vals ta) (λv hv=>by
      unfold lQ;rw[st (rO (hs v hv)),st (w6 (n+1) (hs v hv))];rfl)
     rw[List.map_id']at hc;have eT:lP (aD (n+2)) ρ v Y'=some (iR v (vals ta) false,Y'):=by
      unfold lP;refine oX (by rw[g1,aF,pN hv hs]) λ_=>oX ?_ λ_=>l9 ?_
      ·rw[st (rO hv),st (w6 (n+1) hv),g1,aF,pN (nP hv) hs]
      ·rw[g1,aF,st (r6 _),st (show bK (still (vals ta) (aP (.lst (vals ta)))) _ (vals ta) Y'=_ from hc),pN hv hs2]
     cases hx:iR v (vals ta) false with
     | true=>
      rw[hx,Bool.true_or]at g3;refine .inr ⟨_,Y',⟨rfl,g3.symm,rfl⟩,λk=>?_⟩;unfold dK;rw[st eT,hx];rfl
     | false=>
      rw[hx,Bool.false_or]at g3;refine .inl ⟨upd ρ (S "v") v,Y',⟨rfl,by rw[aI (by nofun)];exact g1,λw hw=>g2 w (zC _ hw),g3⟩,λk=>?_⟩;unfold dK;rw[st eT,hx];rfl) (vals sa)
    (upd (upd (upd (upd (upd e0 (S "how") (bl5 false)) (S "s") (d9 sk ss (dH .no) (a9 sa) sl so)) (S "t") (d9 tk ts (dH .no) (a9 ta) tl to)) (S "left") (.lst (vals sa))) (S "right") (.lst (vals ta))) Y2
    ⟨rfl,bE,λv h=>h,rfl⟩
   rw[List.map_id']at key;rcases key with⟨ρ',Y',⟨rfl,g1,g2,g3⟩,e⟩ | ⟨v,Y',⟨rfl,hf,rfl⟩,e⟩
   ·rw[show ∀k,b9 (still (vals sa) (aP (.lst (vals sa)))) (dK (aD (n+2))) (vals sa) _ k Y'=k ρ' Y' from e,←g3];exact⟨Y',rfl,F1.trans F2⟩
   ·rw[show ∀k,b9 (still (vals sa) (aP (.lst (vals sa)))) (dK (aD (n+2))) (vals sa) _ k Y'=_ from e,hf];exact⟨Y',rfl,F1.trans F2⟩
def rN (s:Tp)(sa:List At)(t:Tp)(ta:List At):Bool:=if !decide (s=.no)||!decide (t=.no)then true else(vals sa).all λv=>g6 (c5 v) ((vals ta).map c5)
theorem aX4 (s t:Tp)(h:ap9 s t=false)(sk ss sa sl so tk ts ta tl to:V)(las lbs:List At) :
  rC call (d9 sk ss (dH s) sa sl so) (d9 tk ts (dH t) ta tl to) Y=some (.bool (rN s las t lbs),Y):=by
 apply bQ4 s t h;ext
theorem bK3 (n:Nat)(s t:Tp)(sk ss sl so tk ts tl to:V)(sa ta:List At)(h1:sa.length≤20)(h2:ta.length≤20) :
  ∃Y',aD (n+3) (.fn 150 0) [d9 sk ss (dH s) (a9 sa) sl so,d9 tk ts (dH t) (a9 ta) tl to] Y=some (.bool (rN s sa t ta),Y')∧Fr No Y Y':=by
 rw[ak1];cases hb:ap9 s t with
 | false=>exact⟨Y,aX4 s t hb _ _ _ _ _ _ _ _ _ _ _ _,Fr.rfl⟩
 | true=>
  simp only[ap9,Bool.and_eq_true,decide_eq_true_eq]at hb;obtain⟨rfl,rfl⟩:=hb;obtain⟨Y1,e1,F1⟩:=hM (Y:=Y) (n+1) ta h2;obtain⟨Y2,e2,F2⟩:=hM (Y:=Y1) (n+1) sa h1;have hs:∀v∈vals ta,kO v=true:=λv h=>lG h;have hs2:∀v∈(vals ta).map c5,kO v=true:=λv h=>by
   obtain⟨w,hw,rfl⟩:=zM h;exact nP (hs w hw)
  unfold rC;have eT:rA (aD (n+2)) (d9 sk ss (dH .no) (a9 sa) sl so) (d9 tk ts (dH .no) (a9 ta) tl to) Y=some (false,Y):=by ext
  have hc:=aC8 (enc:=λv:V=>v) (g:=c5) (f:=lS (aD (n+2))) (Y:=Y1) (vals ta) (λv hv=>by
   unfold lS;rw[st (rO (hs v hv)),st (w6 (n+1) (hs v hv))];rfl)
  have hc2:=aC8 (enc:=λv:V=>v) (g:=λv=>V.bool (g6 (c5 v) ((vals ta).map c5))) (f:=lR (aD (n+2)) ((vals ta).map c5)) (Y:=Y2) (vals sa) (λv hv=>by
   have hv':=lG hv;unfold lR;rw[aC,st (rO hv'),aC,st (w6 (n+1) hv'),st (pN (nP hv') hs2)];rfl)
  rw[List.map_id']at hc hc2;rw[st eT,if_neg (by simp)];unfold rB;rw[st ad4,st (show aA (a9 ta) Y=some (a9 ta,Y)from rfl),st e1,st (r6 _),st (show bK (still (vals ta) (aP (.lst (vals ta)))) _ (vals ta) Y1=_ from hc),
   st ad4,st (show aA (a9 sa) Y1=some (a9 sa,Y1)from rfl),st e2,st (r6 _),st (show bK (still (vals sa) (aP (.lst (vals sa)))) _ (vals sa) Y2=_ from hc2),
   show(vals sa).map (λv=>V.bool (g6 (c5 v) ((vals ta).map c5)))=((vals sa).map λv=>g6 (c5 v) ((vals ta).map c5)).map V.bool by rw[List.map_map];rfl,st (aD8 _),bW]
  refine⟨Y2,?_,F1.trans F2⟩;unfold rN;rw[List.all_map];rfl
end
def uA (a:At):U:=([.ea,.und,.n1,.void,.num,.nul,.sa,.str,.eb,.ea,.tp,.tq,.ff,.tt,.n2,.sb,.n7,.gx,.obj]:List U).getD a.1 .any
def bF4 (near:Bool)(v:V)(b:At):Bool:=g6 v (lH b)||(near&&g6 (c5 v) (lH b))
def qA (near:Bool)(a b:At):Bool:=(lH a).all λv=>bF4 near v b
def bO3 (a:At):V:=(lH a).headD .none
def same (w a:At):Bool:=eY w&&eqP (g8 w) (g8 a)
def mtA (pl:Bool)(a b:At):Bool:=(lH a).any λv=>iR v (lH b) pl
def ab9 (a b:At):Bool:=bt6 a&&rL b&&(eqP (jT b) (jT a)||eY a)
theorem wW {p:At→At→Bool}(h:(bX.all λa=>bX.all λb=>p a b)=true)(a b:At):p a b=true:=
 zA (zA h a (cC a)) b (cC b)
theorem aP8 {p:At→At→At→Bool}(h:(bX.all λa=>bX.all λb=>bX.all λc=>p a b c)=true)(a b c:At):p a b c=true:=
 zA (zA (zA h a (cC a)) b (cC b)) c (cC c)
theorem bD0 (a:At):bO3 a∈lH a:=by induction a using At.cs<;>exact zS
theorem bY4:([true,false].all λnear=>bX.all λa=>bX.all λb=>!bF4 near (bO3 a) b||qA near a b)=true:=by nofun
theorem be4:(bX.all λa=>bX.all λb=>bR (uA a) (uA b)==qA false a b)=true:=by nofun
theorem bI9:(bX.all λa=>bX.all λb=>dB (uA a) (uA b)==qA true a b)=true:=by nofun
theorem bS7:(bX.all λa=>bX.all λb=>dZ (uA a) (uA b)==mtA true a b)=true:=by nofun
theorem bS8:(bX.all λa=>bX.all λb=>(bA 2 (uA a) (uA b)).1==mtA false a b)=true:=by nofun
theorem bY5:(bX.all λa=>bX.all λb=>decide (bA 4 (uA a) (uA b)=(qA true a b,[])))=true:=by nofun
theorem bY7:(bX.all λa=>bX.all λb=>decide (bA 1 (uA a) (uA b)=if qA true a b then(true,[])else if ab9 a b then(true,[10])else(false,[])))=true:=by nofun
theorem cd0:([true,false].all λnear=>bX.all λw=>bX.all λa=>bX.all λb=>!(same w a&&qA near w b)||qA near a b)=true:=by nofun
theorem cc9:([true,false].all λnear=>bX.all λw=>bX.all λa=>bX.all λc=>!(same w a&&qA near c a)||qA near c w)=true:=by nofun
theorem cd2:([true,false].all λpl=>bX.all λw=>bX.all λa=>bX.all λb=>!(same w a&&mtA pl a b)||mtA pl w b)=true:=by nofun
theorem cd1:([true,false].all λpl=>bX.all λw=>bX.all λa=>bX.all λb=>!(same w a&&mtA pl b a)||mtA pl b w)=true:=by nofun
theorem bY6:(bX.all λw=>bX.all λa=>bX.all λb=>!(same w b&&ab9 a b)||qA true a w)=true:=by nofun
theorem rK {as:List At}{v:V}:g6 v (vals as)=as.any λb=>g6 v (lH b):=by
 unfold g6 vals;rw[List.any_flatMap]
theorem aL4 {near:Bool}{v:V}{bs:List At}:(g6 v (vals bs)||(near&&g6 (c5 v) (vals bs)))=bs.any λb=>bF4 near v b:=by
 rw[rK,rK];unfold bF4;rw[u7];cases near
 ·simp
 ·simp
theorem nJ (near:Bool)(as bs:List At):eE near as bs=as.all λa=>bs.any λb=>qA near a b:=by
 unfold eE vals;rw[List.all_flatMap,Bool.eq_iff_iff];simp only[List.all_eq_true];have key:∀a,(∀v∈lH a,(g6 v (vals bs)||(near&&g6 (c5 v) (vals bs)))=true)↔(bs.any λb=>qA near a b)=true:=λa=>by
  constructor
  ·intro h;have h0:=h (bO3 a) (bD0 a);rw[aL4]at h0;obtain⟨b,hb,e⟩:=List.any_eq_true.mp h0;have f:=wW (zA bY4 near (by cases near<;>simp)) a b;rw[e]at f;exact List.any_eq_true.mpr ⟨b,hb,by simpa using f⟩
  ·intro h v hv;obtain⟨b,hb,e⟩:=List.any_eq_true.mp h;rw[aL4];exact List.any_eq_true.mpr ⟨b,hb,zA e v hv⟩
 constructor
 ·intro h a ha;exact(key a).mp (h a ha)
 ·intro h a ha;exact(key a).mpr (h a ha)
theorem aN4 (pl:Bool)(as bs:List At):((vals as).any λv=>iR v (vals bs) pl)=as.any λa=>bs.any λb=>mtA pl a b:=by
 have hv:∀v,iR v (vals bs) pl=bs.any λb=>iR v (lH b) pl:=λv=>by
  unfold iR;cases pl
  ·simp only[Bool.false_eq_true,if_false];rw[u7,u7,rK,rK];congr 2;unfold g6 vals;rw[List.map_flatMap,List.any_flatMap]
  ·simp only[if_true];exact rK
 unfold mtA;simp only[hv];unfold vals;rw[List.any_flatMap,Bool.eq_iff_iff];simp only[List.any_eq_true];constructor
 ·rintro⟨a,ha,v,hv,b,hb,e⟩;exact⟨a,ha,b,hb,v,hv,e⟩
 ·rintro⟨a,ha,b,hb,v,hv,e⟩;exact⟨a,ha,v,hv,b,hb,e⟩
theorem oD {as:List At}{a:At}:a∈bP as↔a∈as∧(eY a=true∨∀w∈as,same w a=false):=by
 unfold bP;rw[List.mem_filter];simp only[Bool.or_eq_true,Bool.not_eq_true',List.any_eq_false];constructor
 ·rintro⟨h,h2⟩;refine⟨h,h2.imp id λh3 w hw=>?_⟩;have:=h3 w hw;unfold same
  simpa using this
 ·rintro⟨h,h2⟩;refine⟨h,h2.imp id λh3 w hw=>?_⟩;have:=h3 w hw;unfold same at this
  simpa using this
theorem sE {as:List At}{a:At}(h:a∈as):a∈bP as∨∃w∈bP as,same w a=true:=by
 by_cases q:a∈bP as
 ·exact .inl q
 ·right;have:¬(eY a=true∨∀w∈as,same w a=false):=λc=>q (oD.mpr ⟨h,c⟩);simp only[not_or,Classical.not_forall]at this;obtain⟨_,w,hw,e⟩:=this;have e':same w a=true:=by simpa using e
  refine⟨w,oD.mpr ⟨hw,.inl ?_⟩,e'⟩;unfold same at e';simp only[Bool.and_eq_true]at e';exact e'.1
theorem oE {as:List At}{a:At}(h:a∈bP as):a∈as:=(oD.mp h).1
theorem w1 {near:Bool}{w a b:At}(h:same w a=true)(h2:qA near w b=true):qA near a b=true:=by
 have:=aP8 (zA cd0 near (by cases near<;>simp)) w a b
 simpa [h,h2]using this
theorem w2 {near:Bool}{w a c:At}(h:same w a=true)(h2:qA near c a=true):qA near c w=true:=by
 have:=aP8 (zA cc9 near (by cases near<;>simp)) w a c
 simpa [h,h2]using this
theorem m1 {pl:Bool}{w a b:At}(h:same w a=true)(h2:mtA pl a b=true):mtA pl w b=true:=by
 have:=aP8 (zA cd2 pl (by cases pl<;>simp)) w a b
 simpa [h,h2]using this
theorem m2 {pl:Bool}{w a b:At}(h:same w a=true)(h2:mtA pl b a=true):mtA pl b w=true:=by
 have:=aP8 (zA cd1 pl (by cases pl<;>simp)) w a b
 simpa [h,h2]using this
theorem aq6 {near:Bool}{a:At}{bs:List At}:((bP bs).any λb=>qA near a b)=bs.any λb=>qA near a b:=by
 rw[Bool.eq_iff_iff];simp only[List.any_eq_true];constructor
 ·rintro⟨b,hb,e⟩;exact⟨b,oE hb,e⟩
 ·rintro⟨b,hb,e⟩;rcases sE hb with h | ⟨w,hw,s⟩
  ·exact⟨b,h,e⟩
  ·exact⟨w,hw,w2 s e⟩
theorem aq7 {near:Bool}{as bs:List At}:((bP as).all λa=>(bP bs).any λb=>qA near a b)=as.all λa=>bs.any λb=>qA near a b:=by
 simp only[aq6];rw[Bool.eq_iff_iff];simp only[List.all_eq_true];constructor
 ·intro h a ha;rcases sE ha with q | ⟨w,hw,s⟩
  ·exact h a q
  ·obtain⟨b,hb,e⟩:=List.any_eq_true.mp (h w hw);exact List.any_eq_true.mpr ⟨b,hb,w1 s e⟩
 ·intro h a ha;exact h a (oE ha)
theorem w9 {pl:Bool}{as bs:List At}:((bP as).any λa=>(bP bs).any λb=>mtA pl a b)=as.any λa=>bs.any λb=>mtA pl a b:=by
 rw[Bool.eq_iff_iff];simp only[List.any_eq_true];constructor
 ·rintro⟨a,ha,b,hb,e⟩;exact⟨a,oE ha,b,oE hb,e⟩
 ·rintro⟨a,ha,b,hb,e⟩;have h1:∃a'∈bP as,mtA pl a' b=true:=by
   rcases sE ha with q | ⟨w,hw,s⟩
   ·exact⟨a,q,e⟩
   ·exact⟨w,hw,m1 s e⟩
  obtain⟨a',ha',e'⟩:=h1;rcases sE hb with q | ⟨w,hw,s⟩
  ·exact⟨a',ha',b,q,e'⟩
  ·exact⟨a',ha',w,hw,m2 s e'⟩
def qD (us:List U)(as:List At):Prop:=∀u,u∈us.map aL↔u∈(bP as).map uA
theorem aJ3 {us:List U}{as:List At}(h:qD us as)(p:U→Bool):(us.all λu=>p (aL u))=(bP as).all λa=>p (uA a):=by
 rw[Bool.eq_iff_iff];simp only[List.all_eq_true];constructor
 ·intro g a ha;obtain⟨u,hu,e⟩:=zM ((h (uA a)).mpr (List.mem_map.mpr ⟨a,ha,rfl⟩));rw[←e];exact g u hu
 ·intro g u hu;obtain⟨a,ha,e⟩:=zM ((h (aL u)).mp (List.mem_map.mpr ⟨u,hu,rfl⟩));rw[←e];exact g a ha
theorem rW {us:List U}{as:List At}(h:qD us as)(p:U→Bool):(us.any λu=>p (aL u))=(bP as).any λa=>p (uA a):=by
 rw[Bool.eq_iff_iff];simp only[List.any_eq_true];constructor
 ·rintro⟨u,hu,g⟩;obtain⟨a,ha,e⟩:=zM ((h (aL u)).mp (List.mem_map.mpr ⟨u,hu,rfl⟩));exact⟨a,ha,by rw[e];exact g⟩
 ·rintro⟨a,ha,g⟩;obtain⟨u,hu,e⟩:=zM ((h (uA a)).mpr (List.mem_map.mpr ⟨a,ha,rfl⟩));exact⟨u,hu,by rw[e];exact g⟩
section
variable {us vs:List U}{as bs:List At}
theorem bC8 (hA:qD us as)(hB:qD vs bs):bZ bR (us.map aL) (vs.map aL)=eE false as bs:=by
 rw[nJ,←aq7];unfold bZ;rw[List.all_map,show((λa=>(vs.map aL).any λb=>bR a b) ∘ aL)=λu=>(λx=>vs.any λv=>bR x (aL v)) (aL u)from by funext u;simp[List.any_map,Function.comp_def]];refine(aJ3 hA λx=>vs.any λv=>bR x (aL v)).trans ?_;congr 1;funext a;rw[rW hB λy=>bR (uA a) y];congr 1;funext b;exact beq_iff_eq.mp (wW be4 a b)
theorem bC7 (hA:qD us as)(hB:qD vs bs):bZ dB (us.map aL) (vs.map aL)=eE true as bs:=by
 rw[nJ,←aq7];unfold bZ;rw[List.all_map,show((λa=>(vs.map aL).any λb=>dB a b) ∘ aL)=λu=>(λx=>vs.any λv=>dB x (aL v)) (aL u)from by funext u;simp[List.any_map,Function.comp_def]];refine(aJ3 hA λx=>vs.any λv=>dB x (aL v)).trans ?_;congr 1;funext a;rw[rW hB λy=>dB (uA a) y];congr 1;funext b;exact beq_iff_eq.mp (wW bI9 a b)
theorem bC9 (hA:qD us as)(hB:qD vs bs):fD dZ (us.map aL) (vs.map aL)=(vals as).any λv=>iR v (vals bs) true:=by
 rw[aN4,←w9];unfold fD;rw[List.any_map,show((λa=>(vs.map aL).any λb=>dZ a b) ∘ aL)=λu=>(λx=>vs.any λv=>dZ x (aL v)) (aL u)from by funext u;simp[List.any_map,Function.comp_def]];refine(rW hA λx=>vs.any λv=>dZ x (aL v)).trans ?_;congr 1;funext a;rw[rW hB λy=>dZ (uA a) y];congr 1;funext b;exact beq_iff_eq.mp (wW bS7 a b)
theorem aK6 {aE:Int}{x:U}:∀{us:List U} {lax:Option (List Int)},(a7 aE x us lax).1=(lax.isSome||us.any λy=>(bA aE x (aL y)).1):=by
 intro us
 induction us with
 | nil=>intro lax;cases lax<;>rfl
 | cons y us ih=>
  intro lax;rw[e8,List.any_cons];split
  ·rename_i h;rw[h];split
   ·simp
   ·rw[ih];simp
  ·rename_i h;rw[ih];simp only[Bool.not_eq_true]at h;rw[h,Bool.false_or]
theorem sL {aE:Int}{bs:List U}:∀{as:List U},(d5 aE bs as).1=as.all λa=>(a7 aE (aL a) bs none).1:=by
 intro ll
 induction ll with
 | nil=>
  exact rfl
 | cons a as ih=>
  rw[dN];rw[List.all_cons];split
  ·rename_i h;rw[h,Bool.true_and];exact ih
  ·rename_i h;simp only[Bool.not_eq_true]at h;rw[h];rfl
theorem aB6 {aE:Int}{bs:List U}:∀{as:List U},(mS aE bs as).1=as.any λa=>(a7 aE (aL a) bs none).1
 | []=>rfl
 | a::as=>by
  rw[d8];rw[List.any_cons];split
  ·rename_i h;rw[h];rfl
  ·rename_i h;simp only[Bool.not_eq_true]at h;rw[h,Bool.false_or];exact aB6
theorem aB7 {aE:Int}{bs:List U}{c:Int}:∀{as:List U},(d5 aE bs as).1=true→(c∈(d5 aE bs as).2↔∃a∈as,c∈(a7 aE (aL a) bs none).2):=by
 intro ll
 induction ll with
 | nil=>
  intro _;simp[sK]
 | cons a as ih=>
  intro h;have h':=h;rw[sL,List.all_cons,Bool.and_eq_true]at h';have h2:(d5 aE bs as).1=true:=by rw[sL];exact h'.2
  rw[dN];rw[if_pos h'.1,h2];simp only[if_true,List.mem_append,List.mem_cons];rw[ih h2];constructor
  ·rintro(h | ⟨x,hx,e⟩)
   ·exact⟨a,.inl rfl,h⟩
   ·exact⟨x,.inr hx,e⟩
  ·rintro⟨x,rfl | hx,e⟩
   ·exact .inl e
   ·exact .inr ⟨x,hx,e⟩
theorem bO2 (hA:qD us as)(hB:qD vs bs):(bT 2 us vs).1=(vals as).any λv=>iR v (vals bs) false:=by
 rw[aN4,←w9];unfold bT;rw[if_pos rfl,aB6];rw[rW hA λx=>(a7 2 x vs none).1];congr 1;funext a;rw[aK6];show(vs.any λy=>(bA 2 (uA a) (aL y)).1)=_;rw[rW hB λy=>(bA 2 (uA a) y).1];congr 1;funext b;exact beq_iff_eq.mp (wW bS8 a b)
theorem ay6 {aE:Int}{x:U}(hB:qD vs bs)(hn:∀b,(bA aE x (uA b)).2=[]∨(bA aE x (uA b)).2=[10]) :
  (a7 aE x vs none).1=((bP bs).any λb=>(bA aE x (uA b)).1)∧(a7 aE x vs none).2=if((bP bs).any λb=>decide (bA aE x (uA b)=(true,[])))then[]else if(a7 aE x vs none).1 then[10]else[]:=by
 have h1:(a7 aE x vs none).1=((bP bs).any λb=>(bA aE x (uA b)).1):=by
  rw[aK6,←rW hB λy=>(bA aE x y).1];rfl
 refine⟨h1,?_⟩;rw[←rW hB λy=>decide (bA aE x y=(true,[]))];have hn':∀y∈vs,(bA aE x (aL y)).2=[]∨(bA aE x (aL y)).2=[10]:=λy hy=>by
  obtain⟨b,_,e⟩:=zM ((hB (aL y)).mp (List.mem_map.mpr ⟨y,hy,rfl⟩));rw[←e];exact hn b
 have go:∀{l:List U} {lax:Option (List Int)},(∀y∈l,(bA aE x (aL y)).2=[]∨(bA aE x (aL y)).2=[10])→(∀ns,lax=some ns→ns=[10])→
   (a7 aE x l lax).2=if(l.any λy=>decide (bA aE x (aL y)=(true,[])))then[]else if(a7 aE x l lax).1 then[10]else[]:=by
  intro l
  induction l with
  | nil=>intro lax _ h;cases lax with
   | none=>rfl
   | some ns=>rw[h ns rfl];rfl
  | cons y l ih=>
   intro lax hl h;rw[e8,List.any_cons];have hl':∀y∈l,(bA aE x (aL y)).2=[]∨(bA aE x (aL y)).2=[10]:=λz hz=>hl z (zC _ hz);by_cases q1:(bA aE x (aL y)).1=true
   ·rw[if_pos q1];by_cases q2:(bA aE x (aL y)).2=[]
    ·have:bA aE x (aL y)=(true,[]):=Prod.ext q1 q2
     rw[if_pos q2,this];simp
    ·have:bA aE x (aL y)≠(true,[]):=λc=>q2 (by rw[c])
     rw[if_neg q2,decide_eq_false this,Bool.false_or];refine ih hl' λns e=>?_;cases e;cases lax with
     | none=>exact(hl y zS).resolve_left q2
     | some ns=>exact h ns rfl
   ·have:bA aE x (aL y)≠(true,[]):=λc=>q1 (by rw[c])
    rw[if_neg q1,decide_eq_false this,Bool.false_or];exact ih hl' h
 exact go hn' λ_ e=>by cases e
theorem bV8 (hA:qD us as)(hB:qD vs bs):(bT 4 us vs).1=eE true as bs∧(bT 4 us vs).2=[]:=by
 have f:∀a b,bA 4 (uA a) (uA b)=(qA true a b,[]):=λa b=>zD (wW bY5 a b);have hs:∀a,(a7 4 (uA a) vs none).1=((bP bs).any λb=>qA true a b)∧(a7 4 (uA a) vs none).2=[]:=λa=>by
  obtain⟨h1,h2⟩:=ay6 (aE:=4) (x:=uA a) hB λb=>.inl (by rw[f]);simp only[f]at h1 h2;refine⟨h1,?_⟩;rw[h2,h1];have:((bP bs).any λb=>decide ((qA true a b,([]:List Int))=(true,[])))=(bP bs).any λb=>qA true a b:=by
   congr 1;funext b;cases qA true a b<;>rfl
  rw[this];split
  ·rfl
  ·rfl
 have h1:(bT 4 us vs).1=eE true as bs:=by
  rw[nJ,←aq7];unfold bT;rw[if_neg (by decide),sL,aJ3 hA λx=>(a7 4 x vs none).1];congr 1;funext a;exact(hs a).1
 refine⟨h1,?_⟩;cases hq:(bT 4 us vs).1 with
 | false=>exact rP hq
 | true=>
  unfold bT at hq ⊢;rw[if_neg (by decide)]at hq ⊢;rw[List.eq_nil_iff_forall_not_mem];intro c hc;obtain⟨u,hu,e⟩:=(aB7 hq).mp hc;obtain⟨a,_,e2⟩:=zM ((hA (aL u)).mp (List.mem_map.mpr ⟨u,hu,rfl⟩));rw[←e2,(hs a).2]at e;cases e
theorem bG9 {a:At}{bs:List At}:aH2 a bs=bs.any λb=>ab9 a b:=by
 unfold aH2 ab9;cases bt6 a with
 | false=>simp
 | true=>
  simp only[Bool.true_and,List.any_filter];rw[Bool.eq_iff_iff];simp only[Bool.or_eq_true,Bool.and_eq_true,List.any_eq_true,Bool.not_eq_true',List.isEmpty_eq_false_iff_exists_mem,List.mem_filter];constructor
  ·rintro(⟨b,hb,h1,h2⟩ | ⟨h,b,hb,h1⟩)
   ·exact⟨b,hb,h1,.inl h2⟩
   ·exact⟨b,hb,h1,.inr h⟩
  ·rintro⟨b,hb,h1,h2 | h2⟩
   ·exact .inl ⟨b,hb,h1,h2⟩
   ·exact .inr ⟨h2,b,hb,h1⟩
theorem bV9 (hA:qD us as)(hB:qD vs bs):(bT 1 us vs).1=(gB (bP as) bs).1∧(∀c,c∈(bT 1 us vs).2↔c∈(gB (bP as) bs).2):=by
 have f:∀a b,bA 1 (uA a) (uA b)=if qA true a b then(true,[])else if ab9 a b then(true,[10])else(false,[]):=λa b=>zD (wW bY7 a b);have hw:∀a,eE true [a] bs=bs.any λb=>qA true a b:=λa=>by rw[nJ];simp
 have hs:∀a,(a7 1 (uA a) vs none).1=(l8 a bs).1∧(a7 1 (uA a) vs none).2=if(l8 a bs).2 then[10]else[]:=λa=>by
  obtain⟨h1,h2⟩:=ay6 (aE:=1) (x:=uA a) hB λb=>by rw[f];cases qA true a b<;>cases ab9 a b<;>simp
  simp only[f]at h1 h2;have e1:((bP bs).any λb=>decide ((if qA true a b=true then(true,[])else if ab9 a b=true then(true,[10])else(false,([]:List Int)))=(true,[])))=(bP bs).any λb=>qA true a b:=by
   congr 1;funext b;cases qA true a b<;>cases ab9 a b<;>rfl
  have e2:((bP bs).any λb=>(if qA true a b=true then(true,[])else if ab9 a b=true then(true,[10])else(false,([]:List Int))).1)=(bP bs).any λb=>qA true a b||ab9 a b:=by
   congr 1;funext b;cases qA true a b<;>cases ab9 a b<;>rfl
  rw[e1,aq6]at h2;rw[e2,u7,aq6]at h1;unfold l8;rw[hw];cases hc:bs.any λb=>qA true a b with
  | true=>rw[hc]at h1 h2;exact⟨h1,h2⟩
  | false=>
   rw[hc]at h1 h2;have e3:((bP bs).any λb=>ab9 a b)=aH2 a bs:=by
    rw[bG9,Bool.eq_iff_iff];simp only[List.any_eq_true];constructor
    ·rintro⟨b,hb,e⟩;exact⟨b,oE hb,e⟩
    ·rintro⟨b,hb,e⟩;rcases sE hb with q | ⟨w,hw',s⟩
     ·exact⟨b,q,e⟩
     ·have:=aP8 bY6 w a b
      rw[s,e]at this;have hle:qA true a w=true:=by simpa using this
      have:(bs.any λb=>qA true a b)=true:=List.any_eq_true.mpr ⟨w,oE hw',hle⟩;rw[hc]at this;cases this
   rw[Bool.false_or,e3]at h1;rw[if_neg (by simp),h1]at h2;rw[if_neg (by simp)];cases hx:aH2 a bs with
   | true=>rw[hx]at h1 h2;exact⟨h1,h2⟩
   | false=>rw[hx]at h1 h2;exact⟨h1,h2⟩
 have h1:(bT 1 us vs).1=((bP as).all λa=>(l8 a bs).1):=by
  unfold bT;rw[if_neg (by decide),sL,aJ3 hA λx=>(a7 1 x vs none).1];congr 1;funext a;exact(hs a).1
 have h2:(gB (bP as) bs).1=(bP as).all λa=>(l8 a bs).1:=by
  unfold gB;split
  ·rename_i h;exact h.symm
  ·rename_i h;simp only[Bool.not_eq_true]at h;exact h.symm
 refine⟨by rw[h1,h2],λc=>?_⟩;cases hq:(bP as).all λa=>(l8 a bs).1 with
 | false=>
  rw[hq]at h1;rw[rP h1];unfold gB;rw[hq];simp
 | true=>
  rw[hq]at h1;unfold bT at h1 ⊢;rw[if_neg (by decide)]at h1 ⊢;rw[aB7 h1];unfold gB;rw[if_pos hq];have:(∃a∈us,c∈(a7 1 (aL a) vs none).2)↔∃a∈bP as,c∈(a7 1 (uA a) vs none).2:=by
   constructor
   ·rintro⟨u,hu,e⟩;obtain⟨a,ha,e2⟩:=zM ((hA (aL u)).mp (List.mem_map.mpr ⟨u,hu,rfl⟩));exact⟨a,ha,by rw[e2];exact e⟩
   ·rintro⟨a,ha,e⟩;obtain⟨u,hu,e2⟩:=zM ((hA (uA a)).mpr (List.mem_map.mpr ⟨a,ha,rfl⟩));exact⟨u,hu,by rw[e2];exact e⟩
  rw[this];constructor
  ·rintro⟨a,ha,e⟩;rw[(hs a).2]at e;cases hx:(l8 a bs).2 with
   | false=>rw[hx]at e;cases e
   | true=>
    rw[hx]at e;rw[if_pos (List.any_eq_true.mpr ⟨a,ha,hx⟩)];exact e
  ·intro e;split at e
   ·rename_i h;obtain⟨a,ha,hx⟩:=List.any_eq_true.mp h;refine⟨a,ha,?_⟩;rw[(hs a).2,hx];exact e
   ·cases e
end
def oG (J:List Int):List (V×V):=J.map λc=>(V.int c,V.int 1)
def kY (J:List Int)(x:Int):List Int:=if x∈J then J else J++[x]
section
variable {Y Y':H}{tb tb':List Row}{t n r:Nat}{rs:RS}{call:CT}
theorem bI3 (i:Int)(J:List Int):bM (.int i) ((oG J).map (·.1))=true:=by
 have h:((oG J).map (·.1)).all kI=true:=by
  rw[List.all_eq_true];intro x hx;simp only[oG,List.map_map,List.mem_map]at hx;obtain⟨p,_,rfl⟩:=hx;rfl
 show((kI (.int i)&&((oG J).map (·.1)).all kI)||_||_)=true;rw[h];rfl
theorem bs5 (x:Int):∀J:List Int,put (.int x) (.int 1) (oG J)=oG (kY J x):=by
 intro ll
 induction ll with
 | nil=>
  exact rfl
 | cons p J ih=>
  simp only[oG,List.map_cons,qM,V.int.injEq];by_cases q:p=x
  ·subst q;simp[kY]
  ·have q':¬x=p:=λh=>q h.symm
   simp only[oG]at ih;rw[if_neg q,ih];unfold kY;by_cases m:x∈J<;>simp[m,q']
theorem aO6:∀l:List Int,nH (l.map V.int)=some l
 | []=>rfl
 | x::r=>by
  show(cA (.int x)).bind (λi=>(nH (r.map V.int)).map (i::·))=_;rw[aO6 r];rfl
theorem aK4 {g:Nat}{J:List Int}(hg:Y[g]?=some (.dict (oG J)))(hl:J.length < 60):jG "sorted" [.ref g] Y=some (.lst ((nL J).map .int),Y):=by
 have e:decide ((oG J).length < 60)=true:=by simp[oG,hl]
 have k:(oG J).map (·.1)=J.map V.int:=by simp[oG]
 show ac5 (.ref g) Y=_;show aB (rdD g) (λes=>aB (dD (decide (es.length < 60))) λ_=>aB (bL (nH (es.map (·.1)))) λks=>ret (V.lst ((nL ks).map .int))) Y=_;rw[st (af5 hg),e,k,aO6];rfl
theorem aC1:∀(ns J:List Int),(ns.foldl kY J).length≤J.length+ns.length
 | [],J=>by simp
 | p::ps,J=>by
  have:=aC1 ps (kY J p);have:(kY J p).length≤J.length+1:=by unfold kY;split<;>simp
  simp only[List.foldl_cons,List.length_cons];lia
theorem bu1 {J:List Int}{x y:Int}:y∈kY J x↔y∈J∨y=x:=by
 unfold kY;split
 ·rename_i h;exact⟨.inl,λh'=>h'.elim id λe=>e▸h⟩
 ·simp
theorem bj4:∀{ns J:List Int} {y:Int},y∈ns.foldl kY J↔y∈J∨y∈ns:=by
 intro ll
 induction ll with
 | nil=>
  intro J y;simp
 | cons p ps ih=>
  intro J y;rw[List.foldl_cons,ih,bu1];simp[or_assoc]
theorem aN0:∀{ns J:List Int},J.Nodup→(ns.foldl kY J).Nodup:=by
 intro ll
 induction ll with
 | nil=>
  intro J h;exact h
 | cons p ps ih=>
  intro J h;rw[List.foldl_cons];refine ih ?_;unfold kY;split
  ·exact h
  ·rename_i q;rw[List.nodup_append];exact⟨h,by simp,λa ha b hb=>by simp at hb;subst hb;intro e;exact q (e▸ha)⟩
theorem aC9 {ns ms:List Int}(h:∀c,c∈ns↔c∈ms)(hm:ms.length≤1):nL (ns.foldl kY [])=ms:=by
 have hnd:(ns.foldl kY []).Nodup:=aN0 List.nodup_nil;have hmem:∀c,c∈ns.foldl kY []↔c∈ms:=λc=>by rw[bj4,h];simp
 generalize ns.foldl kY []=J at *;cases ms with
 | nil=>cases J with
  | nil=>rfl
  | cons a J=>exact absurd ((hmem a).mp zS) (by simp)
 | cons m t=>cases t with
  | cons _ _=>exact absurd (Nat.le_of_succ_le_succ hm) (Nat.not_succ_le_zero _)
  | nil=>cases J with
   | nil=>exact absurd ((hmem m).mpr (.head _)) (by simp)
   | cons a J=>cases J with
    | nil=>have:=(hmem a).mp (.head _);simp at this;subst this;rfl
    | cons b J=>
     have ha:=(hmem a).mp (.head _);have hb:=(hmem b).mp (.tail _ (.head _));simp at ha hb;subst ha;subst hb;simp at hnd
theorem bi9 {aE:Int}{as bs:List U}:(bT aE as bs).2.length≤as.length+1:=by
 have hA:∀as,(d5 aE bs as).2.length≤as.length:=by
  intro as
  induction as with
  | nil=>simp[sK]
  | cons a as ih=>
   rw[dN];split
   ·have:=kR (aE:=aE) (x:=aL a) (us:=bs)
    split
    ·simp;lia
    ·simp
   ·simp
 have hE:∀as,(mS aE bs as).2.length≤1:=by
  intro as
  induction as with
  | nil=>simp[bm1]
  | cons a as ih=>
   rw[d8];split
   ·exact kR
   ·exact ih
 unfold bT;split
 ·have:=hE as;lia
 ·have:=hA as;lia
theorem ba2 (n:Nat){g:Nat}:∀{ns J:List Int} {Y:H} {ρ:LE},Y[g]?=some (.dict (oG J))→J.length+ns.length < 1000→ρ (S "codes")=some (.ref g)→ρ (S "said")=some v→
  ∃ρ',ρ' (S "codes")=some (.ref g)∧ρ' (S "said")=some v∧∀k,b9 (ret ()) (eP (aD n)) (ns.map gQ) ρ k Y=k ρ' (Y.set g (.dict (oG (ns.foldl kY J)))):=by
 intro ll
 induction ll with
 | nil=>
  intro J Y ρ hg hl h1 h2;exact⟨ρ,h1,h2,λk=>by simp only[List.foldl_nil,qI hg];rfl⟩
 | cons c ns ih=>
  intro J Y ρ hg hl h1 h2;have hlen:(kY J c).length≤J.length+1:=by unfold kY;split<;>simp
  obtain⟨ρ',a,b,e⟩:=ih (J:=kY J c) (Y:=Y.set g (.dict (oG (kY J c)))) (ρ:=upd ρ (S "row") (gQ c)) (cS hg) (by simp at hl;lia) (by rw[aI (by nofun)];exact h1) (by rw[aI (by nofun)];exact h2);refine⟨ρ',a,b,λk=>?_⟩;rw[List.foldl_cons,←List.set_set (a:=.dict (oG (kY J c)))];refine Eq.trans ?_ (e k);show aB (ret ()) (λ_=>eP (aD n) (gQ c) ρ λρ'=>b9 (ret ()) (eP (aD n)) (ns.map gQ) ρ' k) Y=_;rw[cM];unfold eP;rw[h1,aF,st (show aJ (.int 0) (gQ c) Y=some (.int c,Y)from rfl),st (gL hg (bI3 _ _) (by simp[oG];lia)),bs5]
theorem bK6 (n:Nat)(W:RW Y tb r rs)(I:RI tb rs)(hm:rs.aE=1∨rs.aE=2∨rs.aE=4){s:Nat}{A B:Side}(hs:KdS tb s A)(ht:KdS tb t B)
  (b1:rs.a8 < 17000) (b2:rs.bS < 40) (b3:rs.aU.length < 68000) (b4:rs.bI.length < 68000) (b5:rs.aN=[]) (htb:tb.length < 80000) (hlen:(i5 rs.aE A B).2.length < 50) :
  ∃Y',aD (n+19) (.fn 151 0) [.ref r,.int s,.int t] Y=some (.tup [.bool (i5 rs.aE A B).1,.lst ((nL ((i5 rs.aE A B).2.foldl kY [])).map .int)],Y')∧eG tb r rs (i5 rs.aE A B) Y Y':=by
 rw[ak4];unfold y7;obtain⟨Y1,e1,rs1,W1,I1,F1,m1,d1,l1,k1,n1,tr1,t1⟩:=bN5 n W I hm hs ht b1 b2 b3 b4 b5 htb;have FA:Fr No Y1 (Y1++[.dict []]):=Fr.app;have hg:(Y1++[O.dict []])[Y1.length]?=some (.dict (oG [])):=k9;have h6:(Y1++[O.dict []])[r]?=some (.inst 110 (gN r rs1)):=FA.get W1.i id;have hno:(Y1++[O.dict []])[r+6]?=some (.inst 7 [(S "rows",.ref (r+7))]):=FA.get W1.no id;have hnr:(Y1++[O.dict []])[r+7]?=some (.list (rs1.aU.map gQ)):=FA.get W1.nr id;rw[st W.aNotes,st W.aRows,st (len_list W.nr)];unfold rE;rw[st W.mAsk,eF,st (aH _),eF,st (aH _),st (show bD (aD (n+18)) (.py 110 2) (S "ask") (.ref r) [.int s,.int t] Y=_ from e1),st gS,
  st (bY h6 (v:=.ref (r+6)) (by ext)),st (bY hno (v:=.ref (r+7)) (by ext)),show cA (.int ((rs.aU.map gQ).length:Nat))=some ((rs.aU.map gQ).length:Int)from rfl,aF,st (uM hnr)]
 have hd:(rs1.aU.map gQ).drop (rs.aU.map gQ).length=(i5 rs.aE A B).2.map gQ:=by
  rw[n1,List.map_append,List.drop_left' rfl]
 rw[hd,st (n8 _)];obtain⟨ρ',g1,g2,e⟩:=ba2 (n+18) (v:=.bool (i5 rs.aE A B).1) (ns:=(i5 rs.aE A B).2) (J:=[]) (Y:=Y1++[.dict []])
  (ρ:=upd (upd (upd (upd (upd (upd e0 (S "rel") (.ref r)) (S "one") (.int s)) (S "other") (.int t)) (S "start") (.int ((rs.aU.map gQ).length:Nat))) (S "said") (.bool (i5 rs.aE A B).1)) (S "codes") (.ref Y1.length)) hg (by simp;lia) bE (by rw[aI (by nofun),bE])
 rw[show ∀k,b9 (still ((i5 rs.aE A B).2.map gQ) (aP (.lst ((i5 rs.aE A B).2.map gQ)))) (eP (aD (n+18))) ((i5 rs.aE A B).2.map gQ) _ k _=_ from e];unfold rF;have hfl:=aC1 (i5 rs.aE A B).2 [];simp at hfl;rw[g2,aF,st (bW _),g1,aF,st (aK4 (cS hg) (by lia)),st (aH7 _),iU];have FB:Fr No Y1 ((Y1++[O.dict []]).set Y1.length (.dict (oG ((i5 rs.aE A B).2.foldl kY [])))):=FA.setNew zR;refine⟨_,rfl,rs1,?_,I1,F1.trans FB.of,m1,d1,l1,k1,n1,tr1,t1⟩;exact⟨W1.T.of FB,FB.get W1.host id,FB.get W1.i id,FB.get W1.as_ id,FB.get W1.kn id,FB.get W1.tr id,FB.get W1.no id,FB.get W1.nr id,W1.lo,W1.tlo,W1.t7,W1.tnd,W1.knd⟩
theorem bb1 (Y l:List O)(i:Nat)(o:O):(Y++l).set (Y.length+i) o=Y++l.set i o:=by
 rw[List.set_append_right _ _ (by lia)];simp
theorem bW6 {l:List O}{i c:Nat}{fs:List (Str×V)}{x:Str}{v:V}(h:l[i]?=some (.inst c fs))(q:(oO.contains x&&decide (fs.length < 100))=true):bH x v (.ref (Y.length+i)) (Y++l)=some ((),Y++l.set i (.inst c (mZ x v fs))):=by
 have h':(Y++l)[Y.length+i]?=some (.inst c fs):=by rw[List.getElem?_append_right (by lia)];simpa using h
 rw[qJ h' q];exact congrArg (λx=>some ((),x)) (bb1 Y l i _)
theorem bV3 {l:List O}{o:O}:bN o (Y++l)=some (.ref (Y.length+l.length),Y++(l++[o])):=by
 rw[gS,List.length_append,List.append_assoc]
def xK (m:Int)(r:Nat):RS:=⟨m,0,0,r+4,[],[],[]⟩
def gH (r:Nat)(m:Int):List O:=[.inst 110 (gN r (xK m r)),.dict [],.dict [],.dict [],.list [],.list [],.inst 7 [(S "rows",.ref (r+7))],.list []]
theorem bA1 (n:Nat)(m:Int):jY (aD (n+2)) 110 [.ref 9,.int m] Y=some (.ref Y.length,Y++gH Y.length m):=by
 unfold jY;rw[show dD (w5.contains 110)=ret ()from rfl,cM,st gS];have key:aD (n+2) (.fn 110 1) [.ref Y.length,.ref 9,.int m] (Y++[.inst 110 []])=some (.none,Y++gH Y.length m):=by
  rw[aw8];unfold al6;have s0:∀{l:List O} {c:Nat} {fs:List (Str×V)} {x:Str} {v:V},l[0]?=some (.inst c fs)→(oO.contains x&&decide (fs.length < 100))=true→bH x v (.ref Y.length) (Y++l)=some ((),Y++l.set 0 (.inst c (mZ x v fs))):=λh q=>bW6 (i:=0) h q;have al:∀{l:List O} {o:O} {k:Nat},l.length=k→bN o (Y++l)=some (.ref (Y.length+k),Y++(l++[o])):=λh=>by rw[bV3,h]
  have eN:∀{l:List O},l.length=6→jY (aD (n+1)) 7 [] (Y++l)=some (.ref (Y.length+6),Y++(l++[.inst 7 [(S "rows",.ref (Y.length+7))],.list []])):=λ{l} h=>by
   unfold jY;rw[show dD (w5.contains 7)=ret ()from rfl,cM,st (al h)];have:aD (n+1) (.fn 7 1) [.ref (Y.length+6)] (Y++(l++[.inst 7 []]))=some (.none,Y++(l++[.inst 7 [(S "rows",.ref (Y.length+7))],.list []])):=by
    rw[ab8];unfold wJ;rw[st (al (k:=7) (by simp[h])),st (bW6 (i:=6) (c:=7) (fs:=[]) (by simp[h]) (by ext))];have:=bb1 l [O.inst 7 [],.list []] 0 (.inst 7 (mZ (S "rows") (.ref (Y.length+7)) []));rw[h]at this;rw[List.append_assoc];exact congrArg (λx=>some (V.none,Y++x)) this
   rw[st this];rfl
  have sF:∀(k k':Nat) (x:Str) {v:V} {rest:List O},mZ x v ((gN Y.length (xK m Y.length)).take k)=(gN Y.length (xK m Y.length)).take k'→(oO.contains x&&decide (((gN Y.length (xK m Y.length)).take k).length < 100))=true→
    bH x v (.ref Y.length) (Y++(.inst 110 ((gN Y.length (xK m Y.length)).take k)::rest))=some ((),Y++(.inst 110 ((gN Y.length (xK m Y.length)).take k')::rest)):=λk k' x v rest hx q=>by
   have:=s0 (l:=.inst 110 ((gN Y.length (xK m Y.length)).take k)::rest) (x:=x) (v:=v) rfl q;rw[hx]at this;exact this
  have alC:∀(k:Nat) {a:O} {rest:List O} {o:O},rest.length+1=k→bN o (Y++(a::rest))=some (.ref (Y.length+k),Y++(a::(rest++[o]))):=λk a rest o h=>al (l:=a::rest) h;have eNC:∀{a:O} {rest:List O},rest.length+1=6→jY (aD (n+1)) 7 [] (Y++(a::rest))=some (.ref (Y.length+6),Y++(a::(rest++[.inst 7 [(S "rows",.ref (Y.length+7))],.list []]))):=λ{a rest} h=>eN (l:=a::rest) h;change aB (bH (S "host") (.ref 9) (.ref Y.length)) _ (Y++(.inst 110 ((gN Y.length (xK m Y.length)).take 0)::[]))=_;rw[st (sF 0 1 (S "host") (by ext) (by ext)),
   st (sF 1 2 (S "mode") (by ext) (by ext)),
   st (alC 1 rfl),
   st (sF 2 3 (S "rules") (by ext) (by ext)),
   st (alC 2 rfl),
   st (sF 3 4 (S "assumed") (by ext) (by ext)),
   st (alC 3 rfl),
   st (sF 4 5 (S "known") (by ext) (by ext)),
   st (alC 4 rfl),
   st (sF 5 6 (S "trail") (by ext) (by ext)),
   st (alC 5 rfl),
   st (sF 6 7 (S "road") (by ext) (by ext)),
   st (sF 7 8 (S "deep") (by ext) (by ext)),
   st (sF 8 9 (S "looks") (by ext) (by ext)),
   st (eNC rfl),
   st (sF 9 10 (S "notes") (by ext) (by ext)),
   st (sF 10 11 (S "telling") (by ext) (by ext)),
   st (sF 11 12 (S "twin") (by ext) (by ext)),
   st (sF 12 13 (S "missing") (by ext) (by ext)),
   st (sF 13 14 (S "at") (by ext) (by ext))]
  rfl
 rw[st key];rfl
theorem cc7 {l:List O}(i:Nat):(Y++l)[Y.length+i]?=l[i]?:=by rw[List.getElem?_append_right (by lia)];simp
theorem bX0 (T:TabAt Y tb)(hh:Y[9]?=some (.inst 90 bd8))(m:Int):RW (Y++gH Y.length m) tb Y.length (xK m Y.length):=by
 have F:Fr No Y (Y++gH Y.length m):=by
  refine⟨by simp,λn o h _=>?_⟩;rw[List.getElem?_append_left (lV h)];exact h
 have h9:=lV hh;have g:∀i,(Y++gH Y.length m)[Y.length+i]?=(gH Y.length m)[i]?:=cc7;exact⟨T.of F,F.get hh id,g 0,g 2,g 3,g 4,g 6,g 7,by lia,by show 10≤Y.length+4;lia,by show Y.length+4≠Y.length+7;lia,List.nodup_nil,List.nodup_nil⟩
end
def uL:Tp→U | .any=>.any | .unk=>.unk | .nev=>.nev | .err=>.err | .no=>.obj
def jI (S:Side)(s:Tp)(as:List At):Prop:=match S with
 | .top x=>s≠.no∧x=uL s
 | .term us=>s=.no∧qD us as∧us≠[]∧us.length≤10∧∀u∈us,cV u=true
theorem sP {α:Type}{l:List α}{p:α→Bool}{c:Bool}(h:∀x∈l,p x=c)(hl:l≠[]):l.any p=c:=by
 cases l with
 | nil=>exact absurd rfl hl
 | cons a l=>
  rw[List.any_cons,h a zS];cases c
  ·rw[Bool.false_or,List.any_eq_false];intro x hx;rw[h x (zC _ hx)];simp
  ·rfl
theorem yT {α:Type}{l:List α}{p:α→Bool}{c:Bool}(h:∀x∈l,p x=c)(hl:l≠[]):l.all p=c:=by
 cases l with
 | nil=>exact absurd rfl hl
 | cons a l=>
  rw[List.all_cons,h a zS];cases c
  ·rfl
  ·rw[Bool.true_and,List.all_eq_true];intro x hx;rw[h x (zC _ hx)]
theorem oZ {us:List U}(h:us≠[]):us.map aL≠[]:=by simpa using h
theorem nN {us:List U}(h:∀u∈us,cV u=true):∀u∈us.map aL,cV u=true:=λu hu=>by
 obtain⟨v,hv,rfl⟩:=zM hu;exact oP (h v hv)
def u8:List Tp:=[.any,.unk,.nev,.err]
theorem gO {s:Tp}(h:s≠.no):s∈u8:=by cases s<;>first | exact absurd rfl h | decide
theorem bS2:(u8.all λs=>qC.all λu=>!cV u||(bR (uL s) u==(s != .unk)&&(dB (uL s) u==false)&&(dZ (uL s) u==true)))=true:=by nofun
theorem bS3:(u8.all λt=>qC.all λu=>!cV u||(bR u (uL t)==(t != .nev)&&(dZ u (uL t)==true)))=true:=by nofun
theorem bO8 {s:Tp}(h:s≠.no){u:U}(hu:cV u=true):bR (uL s) u=(s != .unk)∧dB (uL s) u=false∧dZ (uL s) u=true:=by
 have:=zA (zA bS2 s (gO h)) u (eV u);rw[hu]at this;simp only[Bool.not_true,Bool.false_or,Bool.and_eq_true,beq_iff_eq]at this;exact⟨this.1.1,this.1.2,this.2⟩
theorem cb2 {t:Tp}(h:t≠.no){u:U}(hu:cV u=true):bR u (uL t)=(t != .nev)∧dZ u (uL t)=true:=by
 have:=zA (zA bS3 t (gO h)) u (eV u);rw[hu]at this;simp only[Bool.not_true,Bool.false_or,Bool.and_eq_true,beq_iff_eq]at this;exact this
section
variable {S T:Side}{s t:Tp}{as bs:List At}
theorem oS (h:jI (.top x) s as):((Side.top x).us.map aL)=if s=.nev then[]else[uL s]:=by
 obtain⟨h1,rfl⟩:=h;cases s<;>first | exact absurd rfl h1 | rfl
theorem aL5 (hS:jI S s as)(hT:jI T t bs)(hb:¬(s=.err∧t=.nev)) :
  bZ bR (S.us.map aL) (T.us.map aL)=(fH .plain s as (bP as) t bs).1∧(fH .plain s as (bP as) t bs).2=if(fH .plain s as (bP as) t bs).1&&(decide (s=.any)&&!qE t)then[1]else[]:=by
 cases S with
 | top x=>
  rw[oS hS];obtain⟨h1,rfl⟩:=hS;cases T with
  | top y=>
   rw[oS hT];obtain⟨h2,rfl⟩:=hT;cases s<;>cases t<;>first | exact absurd rfl h1 | exact absurd rfl h2 | exact absurd ⟨rfl,rfl⟩ hb | exact⟨rfl,rfl⟩
  | term vs=>
   obtain⟨rfl,hB,hne,_,hat⟩:=hT;have hat':=nN hat;have e:s≠.nev→bZ bR [uL s] (vs.map aL)=(s != .unk):=λhs=>by
    unfold bZ;rw[List.all_cons,List.all_nil,Bool.and_true];exact sP (λu hu=>(bO8 h1 (hat' u hu)).1) (oZ hne)
   show bZ bR _ (vs.map aL)=_∧_;cases s<;>first | exact absurd rfl h1 | exact⟨rfl,rfl⟩ | (rw[if_neg (by decide),e (by decide)];exact⟨rfl,rfl⟩)
 | term us=>
  obtain⟨rfl,hA,hne,_,hat⟩:=hS;have hat':=nN hat;cases T with
  | top y=>
   rw[oS hT];obtain⟨h2,rfl⟩:=hT;have e:t≠.nev→bZ bR (us.map aL) [uL t]=true:=λhs=>by
    unfold bZ;refine yT (λu hu=>?_) (oZ hne);rw[List.any_cons,List.any_nil,Bool.or_false,(cb2 h2 (hat' u hu)).1];cases t<;>first | rfl | exact absurd rfl hs
   have e0:bZ bR (us.map aL) []=false:=yT (λu hu=>rfl) (oZ hne);show bZ bR (us.map aL) _=_∧_;cases t<;>first | exact absurd rfl h2 | (rw[if_pos rfl,e0];exact⟨rfl,rfl⟩) | (rw[if_neg (by decide),e (by decide)];exact⟨rfl,rfl⟩)
  | term vs=>
   obtain⟨rfl,hB,_,_,_⟩:=hT;show bZ bR (us.map aL) (vs.map aL)=_∧_;rw[bC8 hA hB];have:fH .plain .no as (bP as) .no bs=(eE false as bs,[]):=rfl;rw[this];exact⟨rfl,by simp⟩
theorem aJ8 (hS:jI S s as)(hT:jI T t bs):(qE t||bZ dB (S.us.map aL) (T.us.map aL))=(fH .units s as (bP as) t bs).1:=by
 cases S with
 | top x=>
  rw[oS hS];obtain⟨h1,rfl⟩:=hS;cases T with
  | top y=>
   rw[oS hT];obtain⟨h2,rfl⟩:=hT;cases s<;>cases t<;>first | exact absurd rfl h1 | exact absurd rfl h2 | rfl
  | term vs=>
   obtain⟨rfl,hB,hne,_,hat⟩:=hT;have hat':=nN hat;have e:s≠.nev→bZ dB [uL s] (vs.map aL)=false:=λhs=>by
    unfold bZ;rw[List.all_cons,List.all_nil,Bool.and_true];exact sP (λu hu=>(bO8 h1 (hat' u hu)).2.1) (oZ hne)
   show(qE .no||bZ dB _ (vs.map aL))=_;cases s<;>first | exact absurd rfl h1 | rfl | (rw[if_neg (by decide),e (by decide)];rfl)
 | term us=>
  obtain⟨rfl,hA,hne,_,hat⟩:=hS;cases T with
  | top y=>
   rw[oS hT];obtain⟨h2,rfl⟩:=hT;have e0:bZ dB (us.map aL) []=false:=yT (λu hu=>rfl) (oZ hne);show(qE t||bZ dB (us.map aL) _)=_;cases t<;>first | exact absurd rfl h2 | rfl | (rw[if_pos rfl,e0];rfl)
  | term vs=>
   obtain⟨rfl,hB,_,_,_⟩:=hT;show(qE .no||bZ dB (us.map aL) (vs.map aL))=_;rw[bC7 hA hB];rfl
theorem aN3 (hS:jI S s as)(hT:jI T t bs):((decide (s=.nev)||decide (t=.nev))||fD dZ (S.us.map aL) (T.us.map aL))=pH true s as t bs:=by
 cases S with
 | top x=>
  rw[oS hS];obtain⟨h1,rfl⟩:=hS;cases T with
  | top y=>
   rw[oS hT];obtain⟨h2,rfl⟩:=hT;cases s<;>cases t<;>first | exact absurd rfl h1 | exact absurd rfl h2 | rfl
  | term vs=>
   obtain⟨rfl,hB,hne,_,hat⟩:=hT;have hat':=nN hat;have e:s≠.nev→fD dZ [uL s] (vs.map aL)=true:=λhs=>by
    unfold fD;rw[List.any_cons,List.any_nil,Bool.or_false];exact sP (λu hu=>(bO8 h1 (hat' u hu)).2.2) (oZ hne)
   show((_||_)||fD dZ _ (vs.map aL))=_;cases s<;>first | exact absurd rfl h1 | rfl | (rw[if_neg (by decide),e (by decide)];rfl)
 | term us=>
  obtain⟨rfl,hA,hne,_,hat⟩:=hS;have hat':=nN hat;cases T with
  | top y=>
   rw[oS hT];obtain⟨h2,rfl⟩:=hT;have e:t≠.nev→fD dZ (us.map aL) [uL t]=true:=λhs=>by
    unfold fD;refine sP (λu hu=>?_) (oZ hne);rw[List.any_cons,List.any_nil,Bool.or_false,(cb2 h2 (hat' u hu)).2]
   show((_||_)||fD dZ (us.map aL) _)=_;cases t<;>first | exact absurd rfl h2 | rfl | (rw[if_neg (by decide),e (by decide)];rfl)
  | term vs=>
   obtain⟨rfl,hB,_,_,_⟩:=hT;show((_||_)||fD dZ (us.map aL) (vs.map aL))=_;rw[bC9 hA hB];rfl
theorem aD7 (hS:jI S s as)(hT:jI T t bs) :
  ((i5 1 S T).1=(fH .assign s as (bP as) t bs).1∧(∀c,c∈(i5 1 S T).2↔c∈(fH .assign s as (bP as) t bs).2))∧
  ((i5 4 S T).1=(fH .subtype s as (bP as) t bs).1∧(∀c,c∈(i5 4 S T).2↔c∈(fH .subtype s as (bP as) t bs).2))∧(i5 2 S T).1=pH false s as t bs:=by
 cases S with
 | top x=>
  obtain⟨h1,rfl⟩:=hS;cases T with
  | top y=>
   obtain⟨h2,rfl⟩:=hT;cases s<;>cases t<;>first | exact absurd rfl h1 | exact absurd rfl h2 | exact⟨⟨rfl,λ_=>Iff.rfl⟩,⟨rfl,λ_=>Iff.rfl⟩,rfl⟩
  | term vs=>
   obtain⟨rfl,_⟩:=hT;cases s<;>first | exact absurd rfl h1 | exact⟨⟨rfl,λ_=>Iff.rfl⟩,⟨rfl,λ_=>Iff.rfl⟩,rfl⟩
 | term us=>
  obtain⟨rfl,hA,_⟩:=hS;cases T with
  | top y=>
   obtain⟨h2,rfl⟩:=hT;cases t<;>first | exact absurd rfl h2 | exact⟨⟨rfl,λ_=>Iff.rfl⟩,⟨rfl,λ_=>Iff.rfl⟩,rfl⟩
  | term vs=>
   obtain⟨rfl,hB,_⟩:=hT;refine⟨bV9 hA hB,?_,bO2 hA hB⟩;have:=bV8 hA hB;refine⟨this.1,λc=>?_⟩;show c∈(bT 4 us vs).2↔c∈([]:List Int);rw[this.2]
theorem aS4 {ls bs:List At}:VL (gB ls bs):=by
 unfold gB;refine bk9 (G:=VL) ?_ ?_
 ·show(if _ then _ else _:List Int).length≤1;split<;>simp
 ·exact Nat.zero_le _
theorem aP1 (how:How):(fH how s as (bP as) t bs).2.length≤1:=by
 refine(?_:VL (fH how s as (bP as) t bs));unfold fH
 repeat' refine bk9 (G:=VL) ?_ ?_
 all_goals first | exact Nat.zero_le _ | exact zR | exact aS4 | (show(if _ then _ else _:List Int).length≤1;split<;>simp)
theorem bf8 {m:Int}(hm:m=1∨m=2∨m=4)(hS:jI S s as)(hT:jI T t bs):(i5 m S T).2.length < 50:=by
 cases S with
 | top x=>
  cases T with
  | top y=>have:=rU (aE:=m) (x:=x) (y:=y);show(bA m x y).2.length < 50;lia
  | term vs=>show(hV m x).2.length < 50;unfold hV;(repeat' split)<;>simp
 | term us=>
  cases T with
  | top y=>show(oW y).2.length < 50;simp[oW]
  | term vs=>
   obtain⟨_,_,_,h,_⟩:=hS;have:=bi9 (aE:=m) (as:=us) (bs:=vs);show(bT m us vs).2.length < 50;lia
end
set_option genInjectivity false in
structure OneD where
 kind:Nat
 still:Nat
 tp:Tp
 atoms:List At
set_option genInjectivity false in
structure Tm where
 kind:Nat
 still:Nat
 tp:Tp
 atoms:List At
 ones:List OneD
def cJ (o:OneD):V:=d9 (.int o.kind) (.int o.still) (dH o.tp) (a9 o.atoms) (a9 (bP o.atoms)) (.lst [])
def b0 (t:Tm):V:=d9 (.int t.kind) (.int t.still) (dH t.tp) (a9 t.atoms) (a9 (bP t.atoms)) (.lst (t.ones.map cJ))
def cc8 (u:U):U:=([.any,.unk,.nev,.void,.und,.nul,.str,.num,.fff,.ftt,.obj,.emp,.err,.fff,.ftt,.n1f,.n1f,.n2f,.n2f,.n7f,.n7f,.saf,.saf,.sbf,.sbf,.eaf,.eaf,.ebf,.ebf,.tpf,.tpf,.tqf,.tqf,.gxf,.gxf]:List (U)).getD u.1 u
def rY (a:At)(fr:Bool):U:=if fr then cc8 (uA a)else uA a
def oQ (tb:List Row)(o:OneD):Prop:=
 (o.tp=.no∧∃a fr,o.atoms=[a]∧tb[o.kind]?=some (.u (rY a fr))∧tb[o.still]?=some (.u (uA a)))∨(o.tp≠.no∧o.atoms=[]∧tb[o.kind]?=some (.u (uL o.tp))∧o.still=o.kind)
structure TmOk (tb:List Row) (t:Tm):Prop where
 side:∃S,KdS tb t.kind S∧jI S t.tp t.atoms
 la:t.atoms.length≤10
 lo:t.ones.length≤10
 ones:∀o∈t.ones,oQ tb o
def wD (nums:List V)(at':Nat)(turned:Bool):List (V×V):=[(.str (S "nums"),.lst nums),(.str (S "next"),.int at'),(.str (S "tab"),.ref 0),(.str (S "host"),.ref 9),(.str (S "dids"),.ref 10),(.str (S "rels"),.ref 11),(.str (S "turned"),.bool turned)]
def ap2 (did:Nat)(brand:String)(m:Nat):List (Str×V):=[(S "did",.int did),(S "kind",.int 5),(S "name",.str (S brand)),(S "params",.tup []),(S "body",.int (-1)),(S "bases",.tup []),(S "static",.int (-1)),(S "extends_class",.int 0),(S "abstract",.bool false),
 (S "members",.ref m),(S "variances",.ref (m+1)),(S "busy",.int 0),(S "at",.int 0),(S "file",.str (S "")),(S "nid",.int 0)]
def jV (n:String)(v:V):V:=.tup [.str (S n),v]
structure Stat (Y:H):Prop where
 dec:Y[3]?=some (.list [.none,.ref 37,.ref 40,.ref 43])
 dids:Y[10]?=some (.dict [(.str (S "E"),.int 1),(.str (S "T"),.int 2),(.str (S "G"),.int 3)])
 e:Y[37]?=some (.inst 59 (ap2 1 "E" 38))
 em:Y[38]?=some (.list [jV "A" (.int 1),jV "B" (.int 2),jV "C" (.int 1)])
 t:Y[40]?=some (.inst 59 (ap2 2 "T" 41))
 tm:Y[41]?=some (.list [jV "P" (.str (S "a")),jV "Q" (.str (S "b"))])
 g:Y[43]?=some (.inst 59 (ap2 3 "G" 44))
 gm:Y[44]?=some (.list [jV "X" (.int 1)])
structure Rest (rs:RS) (L:Nat):Prop where
 d:rs.bS=0
 t:rs.aN=[]
 l:rs.a8≤L
 k:rs.bI.length≤L
 n:rs.aU.length≤L
structure WdS (Y:H) (tb:List Row) (L:Nat) (nums:List V) (at':Nat) (turned:Bool) (rs1 rs2 rs4:RS):Prop where
 r1:RW Y tb 13 rs1
 r2:RW Y tb 21 rs2
 r4:RW Y tb 29 rs4
 i1:RI tb rs1
 i2:RI tb rs2
 i4:RI tb rs4
 m1:rs1.aE=1
 m2:rs2.aE=2
 m4:rs4.aE=4
 q1:Rest rs1 L
 q2:Rest rs2 L
 q4:Rest rs4 L
 t12:rs1.tr≠rs2.tr
 t14:rs1.tr≠rs4.tr
 t24:rs2.tr≠rs4.tr
 a1:rs1.tr=17∨46≤rs1.tr
 a2:rs2.tr=25∨46≤rs2.tr
 a4:rs4.tr=33∨46≤rs4.tr
 w:Y[12]?=some (.dict (wD nums at' turned))
 hn:∀v∈nums,∃i,v=.int i
 rels:Y[11]?=some (.dict [(.int 1,.ref 13),(.int 2,.ref 21),(.int 4,.ref 29)])
 stat:Stat Y
 ln:46≤Y.length
section
variable {Y Y':H}{tb tb':List Row}{t n r L:Nat}{rs rs1 rs2 rs4:RS}{call:CT}{nums:List V}{at':Nat}{turned:Bool}
theorem RW.fr {P:Nat→Prop}(W:RW Y tb r rs)(F:Fr P Y Y')(h:∀m,(m=0∨m=1∨m=2∨m=9∨m=r∨m=r+2∨m=r+3∨m=rs.tr∨m=r+6∨m=r+7)→¬P m):RW Y' tb r rs:=
 ⟨W.T.fr F (h _ (.inl rfl)) (h _ (.inr (.inl rfl))) (h _ (.inr (.inr (.inl rfl)))),F.get W.host (h _ (.inr (.inr (.inr (.inl rfl))))),F.get W.i (h _ (.inr (.inr (.inr (.inr (.inl rfl)))))),F.get W.as_ (h _ (.inr (.inr (.inr (.inr (.inr (.inl rfl))))))),F.get W.kn (h _ (.inr (.inr (.inr (.inr (.inr (.inr (.inl rfl)))))))),F.get W.tr (h _ (.inr (.inr (.inr (.inr (.inr (.inr (.inr (.inl rfl))))))))),F.get W.no (h _ (.inr (.inr (.inr (.inr (.inr (.inr (.inr (.inr (.inl rfl)))))))))),F.get W.nr (h _ (.inr (.inr (.inr (.inr (.inr (.inr (.inr (.inr (.inr (rfl))))))))))),W.lo,W.tlo,W.t7,W.tnd,W.knd⟩
theorem Stat.fr {P:Nat→Prop}(s:Stat Y)(F:Fr P Y Y')(h:∀m,(m=3∨m=10∨m=37∨m=38∨m=40∨m=41∨m=43∨m=44)→¬P m):Stat Y':=
 ⟨F.get s.dec (h _ (.inl rfl)),F.get s.dids (h _ (.inr (.inl rfl))),F.get s.e (h _ (.inr (.inr (.inl rfl)))),F.get s.em (h _ (.inr (.inr (.inr (.inl rfl))))),F.get s.t (h _ (.inr (.inr (.inr (.inr (.inl rfl)))))),F.get s.tm (h _ (.inr (.inr (.inr (.inr (.inr (.inl rfl))))))),F.get s.g (h _ (.inr (.inr (.inr (.inr (.inr (.inr (.inl rfl)))))))),F.get s.gm (h _ (.inr (.inr (.inr (.inr (.inr (.inr (.inr (rfl)))))))))⟩
theorem aE9 {r tr m:Nat}(h:m=0∨m=1∨m=2∨m=9∨m=r∨m=r+2∨m=r+3∨m=tr∨m=r+6∨m=r+7):m∈[0,1,2,9,r,r+2,r+3,r+6,r+7]∨m=tr:=by
 rcases h with h | h | h | h | h | h | h | h | h | h
 iterate 7 exact .inl (h▸by repeat (first | exact .head _ | apply List.Mem.tail))
 ·exact .inr h
 iterate 2 exact .inl (h▸by repeat (first | exact .head _ | apply List.Mem.tail))
theorem vA {m:Nat}(h:m=3∨m=10∨m=37∨m=38∨m=40∨m=41∨m=43∨m=44):m∈[3,10,37,38,40,41,43,44]:=by
 rcases h with h | h | h | h | h | h | h | h<;>exact h▸by repeat (first | exact .head _ | apply List.Mem.tail)
def okA (q a:Nat):Bool:=decide (a < 46)&&(a != q&&(a != q+2&&(a != q+3&&(a != q+7&&a != q+4))))
theorem bP9 {q a:Nat}(k:okA q a=true):a < 46∧a≠q∧a≠q+2∧a≠q+3∧a≠q+7∧a≠q+4:=by simpa [okA]using k
theorem bO7 {q tq a:Nat}(h:a < 46)(h2:a≠q)(hq:tq=q∨46≤tq):a≠tq:=by lia
theorem qL {q tq a:Nat}(k:okA q a=true)(hq:tq=q+4∨46≤tq):¬i9 q tq a:=by
 obtain⟨a1,a2,a3,a4,a5,a6⟩:=bP9 k;exact λh=>h.elim a2 λh=>h.elim a3 λh=>h.elim a4 λh=>h.elim a5 (bO7 a1 a6 hq)
theorem bb5 {l:List Nat}{q tq m:Nat}(k:l.all (okA q)=true)(hq:tq=q+4∨46≤tq)(h:m∈l):¬i9 q tq m:=qL (zA k m h) hq
theorem r8 {r tr q tq m:Nat}(h:m=0∨m=1∨m=2∨m=9∨m=r∨m=r+2∨m=r+3∨m=tr∨m=r+6∨m=r+7)(k:[0,1,2,9,r,r+2,r+3,r+6,r+7].all (okA q)=true)(k2:okA q (r+4)=true)(k3:q+7 < 46)
  (hr:tr=r+4∨46≤tr) (hq:tq=q+4∨46≤tq) (ne:tr≠tq):¬i9 q tq m:=by
 rcases aE9 h with h | h
 ·exact bb5 k hq h
 subst h;rcases hr with hr | hr
 ·exact hr▸qL k2 hq
 ·exact λh=>h.elim (λe=>by lia) λh=>h.elim (λe=>by lia) λh=>h.elim (λe=>by lia) λh=>h.elim (λe=>by lia) ne
theorem ae6 {q tq m:Nat}(h:m=3∨m=10∨m=37∨m=38∨m=40∨m=41∨m=43∨m=44)(k:[3,10,37,38,40,41,43,44].all (okA q)=true)(hq:tq=q+4∨46≤tq):¬i9 q tq m:=bb5 k hq (vA h)
theorem bX3 {l:List Nat}{m:Nat}(k:l.all (λa=>decide (a < 46))=true)(h:m∈l):m < 46:=zD (zA k m h)
theorem aF0 {r tr m:Nat}(hr:[0,1,2,9,r,r+2,r+3,r+6,r+7].all (λa=>decide (a < 46))=true)(h:m=0∨m=1∨m=2∨m=9∨m=r∨m=r+2∨m=r+3∨m=tr∨m=r+6∨m=r+7):m < 46∨m=tr:=(aE9 h).imp (bX3 hr) id
theorem Rest.mono {rs:RS}{L L':Nat}(q:Rest rs L)(h:L≤L'):Rest rs L':=⟨q.d,q.t,zL q.l h,zL q.k h,zL q.n h⟩
theorem Rest.ask {rs rs':RS}{L:Nat}{ns:List Int}(q:Rest rs L)(hp:ns.length < 50)(d:rs'.bS=rs.bS)(tr:rs'.aN=[])(l:rs'.a8≤rs.a8+40)(k:rs'.bI.length≤rs.bI.length+100)(nn:rs'.aU=rs.aU++ns):Rest rs' (L+100):=
 ⟨d.trans q.d,tr,zL l (Nat.add_le_add q.l (by decide)),zL k (Nat.add_le_add_right q.k 100),by rw[nn,List.length_append];exact Nat.add_le_add q.n (zL (Nat.le_of_lt hp) (by decide))⟩
theorem aT8 {a b c n:Nat}(a1:a=c∨46≤a)(ln:46≤n)(tt:b=a∨n≤b):b=c∨46≤b:=tt.elim (λe=>e▸a1) λh=>.inr (zL ln h)
theorem ay3 {a b c n:Nat}(t:a≠c)(lt:c < n)(tt:b=a∨n≤b):b≠c:=tt.elim (λe=>e▸t) λh=>Nat.ne_of_gt (Nat.lt_of_lt_of_le lt h)
namespace WdS
theorem of (W:WdS Y tb L nums at' turned rs1 rs2 rs4)(F:Fr No Y Y'):WdS Y' tb L nums at' turned rs1 rs2 rs4:=
 { W with r1:=W.r1.fr F λ_ _=>id,r2:=W.r2.fr F λ_ _=>id,r4:=W.r4.fr F λ_ _=>id,w:=F.get W.w id,rels:=F.get W.rels id,stat:=W.stat.fr F λ_ _=>id,ln:=zL W.ln F.1 }
theorem mono {L':Nat}(W:WdS Y tb L nums at' turned rs1 rs2 rs4)(h:L≤L'):WdS Y tb L' nums at' turned rs1 rs2 rs4:=
 { W with q1:=W.q1.mono h,q2:=W.q2.mono h,q4:=W.q4.mono h }
theorem tlt (W:WdS Y tb L nums at' turned rs1 rs2 rs4):rs1.tr < Y.length∧rs2.tr < Y.length∧rs4.tr < Y.length:=⟨lV W.r1.tr,lV W.r2.tr,lV W.r4.tr⟩
theorem frP {P:Nat→Prop}(W:WdS Y tb L nums at' turned rs1 rs2 rs4)(F:Fr P Y Y')(hP:∀m,m < 46∨m=rs1.tr∨m=rs2.tr∨m=rs4.tr→¬P m):WdS Y' tb L nums at' turned rs1 rs2 rs4:=
 { W with r1:=W.r1.fr F λm h=>hP m ((aF0 (by decide) h).imp id .inl),r2:=W.r2.fr F λm h=>hP m ((aF0 (by decide) h).imp id λe=>.inr (.inl e)),r4:=W.r4.fr F λm h=>hP m ((aF0 (by decide) h).imp id λe=>.inr (.inr e)),w:=F.get W.w (hP _ (.inl (by decide))),rels:=F.get W.rels (hP _ (.inl (by decide))),stat:=W.stat.fr F λm h=>hP m (.inl (bX3 (by decide) (vA h))),ln:=zL W.ln F.1 }
theorem ask1 (W:WdS Y tb L nums at' turned rs1 rs2 rs4){p:Bool×List Int}(hp:p.2.length < 50)(A:eG tb 13 rs1 p Y Y'):∃rs1',WdS Y' tb (L+100) nums at' turned rs1' rs2 rs4∧(rs1'.tr=rs1.tr∨Y.length≤rs1'.tr):=by
 obtain⟨rs1',R,I,F,m,d,l,k,nn,tr,tt⟩:=A;exact⟨rs1',⟨R,W.r2.fr F λm h=>r8 h (by decide) (by decide) (by decide) W.a2 W.a1 W.t12.symm,W.r4.fr F λm h=>r8 h (by decide) (by decide) (by decide) W.a4 W.a1 W.t14.symm,I,W.i2,W.i4,m.trans W.m1,W.m2,W.m4,
  W.q1.ask hp d tr l k nn,W.q2.mono (Nat.le_add_right _ _),W.q4.mono (Nat.le_add_right _ _),ay3 W.t12 W.tlt.2.1 tt,ay3 W.t14 W.tlt.2.2 tt,W.t24,aT8 W.a1 W.ln tt,W.a2,W.a4,F.get W.w (qL (by decide) W.a1),W.hn,
  F.get W.rels (qL (by decide) W.a1),W.stat.fr F λm h=>ae6 h (by decide) W.a1,zL W.ln F.1⟩,tt⟩
theorem ask2 (W:WdS Y tb L nums at' turned rs1 rs2 rs4){p:Bool×List Int}(hp:p.2.length < 50)(A:eG tb 21 rs2 p Y Y'):∃rs2',WdS Y' tb (L+100) nums at' turned rs1 rs2' rs4:=by
 obtain⟨rs2',R,I,F,m,d,l,k,nn,tr,tt⟩:=A;exact⟨rs2',W.r1.fr F λm h=>r8 h (by decide) (by decide) (by decide) W.a1 W.a2 W.t12,R,W.r4.fr F λm h=>r8 h (by decide) (by decide) (by decide) W.a4 W.a2 W.t24.symm,W.i1,I,W.i4,W.m1,m.trans W.m2,W.m4,
  W.q1.mono (Nat.le_add_right _ _),W.q2.ask hp d tr l k nn,W.q4.mono (Nat.le_add_right _ _),(ay3 W.t12.symm W.tlt.1 tt).symm,W.t14,ay3 W.t24 W.tlt.2.2 tt,W.a1,aT8 W.a2 W.ln tt,W.a4,F.get W.w (qL (by decide) W.a2),W.hn,
  F.get W.rels (qL (by decide) W.a2),W.stat.fr F λm h=>ae6 h (by decide) W.a2,zL W.ln F.1⟩
theorem ask4 (W:WdS Y tb L nums at' turned rs1 rs2 rs4){p:Bool×List Int}(hp:p.2.length < 50)(A:eG tb 29 rs4 p Y Y'):∃rs4',WdS Y' tb (L+100) nums at' turned rs1 rs2 rs4':=by
 obtain⟨rs4',R,I,F,m,d,l,k,nn,tr,tt⟩:=A;exact⟨rs4',W.r1.fr F λm h=>r8 h (by decide) (by decide) (by decide) W.a1 W.a4 W.t14,W.r2.fr F λm h=>r8 h (by decide) (by decide) (by decide) W.a2 W.a4 W.t24,R,W.i1,W.i2,I,W.m1,W.m2,m.trans W.m4,
  W.q1.mono (Nat.le_add_right _ _),W.q2.mono (Nat.le_add_right _ _),W.q4.ask hp d tr l k nn,W.t12,(ay3 W.t14.symm W.tlt.1 tt).symm,(ay3 W.t24.symm W.tlt.2.1 tt).symm,W.a1,W.a2,aT8 W.a4 W.ln tt,F.get W.w (qL (by decide) W.a4),W.hn,
  F.get W.rels (qL (by decide) W.a4),W.stat.fr F λm h=>ae6 h (by decide) W.a4,zL W.ln F.1⟩
theorem wTab (W:WdS Y tb L nums at' turned rs1 rs2 rs4):aJ (.str (S "tab")) (.ref 12) Y=some (.ref 0,Y):=cY W.w (by ext) (by ext)
theorem wHost (W:WdS Y tb L nums at' turned rs1 rs2 rs4):aJ (.str (S "host")) (.ref 12) Y=some (.ref 9,Y):=cY W.w (by ext) (by ext)
theorem bL7 (W:WdS Y tb L nums at' turned rs1 rs2 rs4):aJ (.str (S "dids")) (.ref 12) Y=some (.ref 10,Y):=cY W.w (by ext) (by ext)
theorem wRels (W:WdS Y tb L nums at' turned rs1 rs2 rs4):aJ (.str (S "rels")) (.ref 12) Y=some (.ref 11,Y):=cY W.w (by ext) (by ext)
theorem wNums (W:WdS Y tb L nums at' turned rs1 rs2 rs4):aJ (.str (S "nums")) (.ref 12) Y=some (.lst nums,Y):=cY W.w (by ext) (by ext)
theorem wNext (W:WdS Y tb L nums at' turned rs1 rs2 rs4):aJ (.str (S "next")) (.ref 12) Y=some (.int at',Y):=cY W.w (by ext) (by ext)
theorem wTurned (W:WdS Y tb L nums at' turned rs1 rs2 rs4):aJ (.str (S "turned")) (.ref 12) Y=some (.bool turned,Y):=cY W.w (by ext) (by ext)
theorem wFrz (W:WdS Y tb L nums at' turned rs1 rs2 rs4):aA (.ref 12) Y=some (.ref 12,Y):=wT W.w
theorem rel1 (W:WdS Y tb L nums at' turned rs1 rs2 rs4):aJ (.int 1) (.ref 11) Y=some (.ref 13,Y):=cY W.rels (by ext) (by ext)
theorem rel2 (W:WdS Y tb L nums at' turned rs1 rs2 rs4):aJ (.int 2) (.ref 11) Y=some (.ref 21,Y):=cY W.rels (by ext) (by ext)
theorem rel4 (W:WdS Y tb L nums at' turned rs1 rs2 rs4):aJ (.int 4) (.ref 11) Y=some (.ref 29,Y):=cY W.rels (by ext) (by ext)
end WdS
end
section
variable {Y Y':H}{tb tb':List Row}{n r L:Nat}{rs rs1 rs2 rs4:RS}{call:CT}{nums:List V}{at':Nat}{turned:Bool}{s t:Tm}
theorem i0 {α β γ:Type}{v:α}{k:α→M β}{f:β→M γ}:aB (aQ (some v) k) f=aB (k v) f:=rfl
theorem z6 {α γ:Type}{c j:Nat}{v:V}{k:V→M α}{f:α→M γ}:aB (cI (cG (.py c j)) v k) f=aB (aA v) λv=>aB (k v) f:=aC _ _ _
def ar5 (g:Bool×List Int):V:=.tup [.bool g.1,.lst (g.2.map V.int)]
theorem af2 (g:Bool×List Int):dO 9 (ar5 g)=true:=by
 show(dO 8 (.bool g.1)&&(fM 7 (g.2.map V.int)&&true))=true;rw[rR];rfl
theorem zX:∀c:List Int,PyData.eqvAll (pdL (c.map V.int)) (pdL (c.map V.int))=true
 | []=>rfl
 | x::c=>by
  show((x==x)&&PyData.eqvAll (pdL (c.map V.int)) (pdL (c.map V.int)))=true;rw[zX c];simp
theorem bJ2 (g:Bool×List Int):eqP (ar5 g) (ar5 g)=true:=by
 show((g.1==g.1)&&(PyData.eqvAll (pdL (g.2.map V.int)) (pdL (g.2.map V.int))&&true))=true;rw[zX];simp
theorem aV6 {x y:V}(hx:dO 9 x=true)(hy:dO 9 y=true):aK .NotEq x y Y=some (!eqP x y,Y):=by
 show aB (aK .Eq x y) (λc=>ret !c) Y=_;rw[st (yM hx hy)];rfl
theorem aG4 (g:Bool×List Int):aK .NotEq (ar5 g) (ar5 g) Y=some (false,Y):=by
 rw[aV6 (af2 g) (af2 g),bJ2];rfl
theorem ac6 (b:Bool):aK .NotEq (.bool b) (.bool b) Y=some (false,Y):=by
 rw[aV6 rfl rfl];cases b<;>rfl
theorem bJ1 (b:Bool):aK .Eq (.bool b) (.bool b) Y=some (true,Y):=by
 rw[yM rfl rfl];cases b<;>rfl
def goT (how:How)(s t:Tm):Bool×List Int:=fH how s.tp s.atoms (bP s.atoms) t.tp t.atoms
theorem aN7 (as:List At):(bP as).length≤as.length:=List.length_filter_le _ _
theorem an8 (n:Nat)(how:How)(hs:TmOk tb s)(ht:TmOk tb t):∃Y',aD (n+4) (.fn 148 0) [rM how,b0 s,b0 t] Y=some (ar5 (goT how s t),Y')∧Fr No Y Y':=
 bA5 n how s.tp t.tp _ _ _ _ _ _ _ _ _ _ (by have:=hs.la;lia) (by have:=ht.la;lia) (by have:=hs.la;have:=aN7 s.atoms;lia)
theorem bt9 (n:Nat)(pl:Bool)(hs:TmOk tb s)(ht:TmOk tb t):∃Y',aD (n+3) (.fn 149 0) [bl5 pl,b0 s,b0 t] Y=some (.bool (pH pl s.tp s.atoms t.tp t.atoms),Y')∧Fr No Y Y':=
 bK2 n pl s.tp t.tp _ _ _ _ _ _ _ _ _ _ (by have:=hs.la;lia) (by have:=ht.la;lia)
theorem oV (T:TbOk tb){S:Side}(h:KdS tb s.kind S)(h2:jI S s.tp s.atoms)(i:Nat)(x:Tp)(hi:first[i]?=some (.u (uL x)))(hx:x≠.no):decide (s.kind=i)=decide (s.tp=x):=by
 rw[Bool.eq_iff_iff,decide_eq_true_iff,decide_eq_true_iff];cases S with
 | top y=>
  obtain⟨h3,rfl⟩:=h2;have:=gR T hi (t:=s.kind);rw[h.1]at this;simp only[Option.some.injEq,Row.u.injEq]at this;rw[←this];cases hh:s.tp<;>cases x<;>first | exact absurd rfl hx | exact absurd hh h3 | decide
 | term us=>
  obtain⟨h3,_⟩:=h2;obtain⟨K,hT,_⟩:=h;rw[h3];constructor
  ·intro e;exact absurd e (hT.notTop T hi (by cases x<;>first | exact absurd rfl hx | rfl))
  ·intro e;exact absurd e.symm hx
theorem aJ0 (n:Nat)(W:RW Y tb r rs)(I:RI tb rs)(Q:Rest rs L)(hm:rs.aE=1∨rs.aE=4)(hL:L≤10000)(htb:tb.length < 80000)(hs:TmOk tb s)(ht:TmOk tb t) :
  ∃Y' p,aD (n+19) (.fn 151 0) [.ref r,.int s.kind,.int t.kind] Y=some (ar5 (goT (if rs.aE=1 then .assign else .subtype) s t),Y')∧eG tb r rs p Y Y'∧p.2.length < 50:=by
 obtain⟨A,kA,sA⟩:=hs.side;obtain⟨B,kB,sB⟩:=ht.side;have hm':rs.aE=1∨rs.aE=2∨rs.aE=4:=by lia
 have hlen:=bf8 hm' sA sB;obtain⟨Y',e,post⟩:=bK6 n W I hm' kA kB (by have:=Q.l;lia) (by have:=Q.d;lia) (by have:=Q.n;lia) (by have:=Q.k;lia) Q.t htb hlen;refine⟨Y',_,?_,post,hlen⟩;rw[e];obtain⟨a1,a4,_⟩:=aD7 (as:=s.atoms) (bs:=t.atoms) sA sB;congr 2;rcases hm with h | h
 ·rw[h,if_pos rfl,aC9 a1.2 (aP1 .assign),a1.1];rfl
 ·rw[h,if_neg (by decide),aC9 a4.2 (aP1 .subtype),a4.1];rfl
theorem dS (t:Tm):aA (b0 t) Y=some (b0 t,Y):=rfl
theorem bz1 (t:Tm):aJ (.str (S "top")) (b0 t) Y=some (dH t.tp,Y):=bz0
theorem be9 (t:Tm):aJ (.str (S "kind")) (b0 t) Y=some (.int t.kind,Y):=aI2
theorem sN (t:Tm):aJ (.str (S "ones")) (b0 t) Y=some (.lst (t.ones.map cJ),Y):=bT3
theorem bq3 (x:Tp):aK .Eq (dH x) (.str (S "error")) Y=some (decide (x=.err),Y)∧aK .Eq (dH x) (.str (S "never")) Y=some (decide (x=.nev),Y):=by
 cases x<;>exact⟨by ext,by ext⟩
theorem bF7 (n:Nat)(W:WdS Y tb L nums at' turned rs1 rs2 rs4)(htb:tb.length < 80000)(hs:TmOk tb s)(ht:TmOk tb t) :
  ∃Y',nA (aD (n+5)) (.ref 12) (.int s.kind) (.int t.kind) (b0 s) (b0 t) (.bool (decide (s.tp=.err)&&decide (t.tp=.nev))) Y=some (false,Y')∧Fr No Y Y':=by
 obtain⟨A,kA,sA⟩:=hs.side;obtain⟨B,kB,sB⟩:=ht.side;unfold nA;obtain⟨Y1,e1,F1⟩:=aI8 n W.r1.T kA.kd kB.kd htb;obtain⟨Y2,e2,F2⟩:=an8 (Y:=Y1) (n+1) .plain hs ht;have h0:=oV W.r1.T.ok kA sA 0 .any rfl (by decide);have t0:=oV W.r1.T.ok kB sB 0 .any rfl (by decide);have t1:=oV W.r1.T.ok kB sB 1 .unk rfl (by decide);have t13:=oV W.r1.T.ok kB sB 13 .err rfl (by decide);have hw:decide (t.kind=0∨t.kind=1∨t.kind=13)=qE t.tp:=by
  rw[Bool.decide_or,Bool.decide_or,t0,t1,t13];cases t.tp<;>rfl
 rw[h0,hw]at e1;refine⟨Y2,?_,F1.trans F2⟩;rw[aC,st W.wTab,aC,st W.r1.T.frz,aC,st (aH _),aC,st (aH _),aC,st e1,aC,aC,st (dS s),aC,st (dS t),aC,st (show aD (n+5) (.fn 148 0) [.str (S "plain"),b0 s,b0 t] Y1=_ from e2)];by_cases hb:s.tp=.err∧t.tp=.nev
 ·have hd:dO 9 (.tup [.bool (bZ bR (A.us.map aL) (B.us.map aL)),.lst (if bZ bR (A.us.map aL) (B.us.map aL)&&(decide (s.tp=.any)&&!qE t.tp)then[.int 1]else[])])=true:=by split<;>rfl
  rw[st (aV6 hd (af2 _)),hb.1,hb.2];cases (!eqP _ _)<;>rfl
 ·obtain⟨p1,p2⟩:=aL5 sA sB hb;have:V.tup [.bool (bZ bR (A.us.map aL) (B.us.map aL)),.lst (if bZ bR (A.us.map aL) (B.us.map aL)&&(decide (s.tp=.any)&&!qE t.tp)then[.int 1]else[])]=ar5 (goT .plain s t):=by
   unfold ar5 goT;rw[p2,p1];split<;>rfl
  rw[this,st (aG4 _)];rfl
theorem bF6 (n:Nat)(W:WdS Y tb L nums at' turned rs1 rs2 rs4)(htb:tb.length < 80000)(hs:TmOk tb s)(ht:TmOk tb t) :
  ∃Y',m9 (aD (n+5)) (.ref 12) (.int s.kind) (.int t.kind) (b0 s) (b0 t) Y=some (false,Y')∧Fr No Y Y':=by
 obtain⟨A,kA,sA⟩:=hs.side;obtain⟨B,kB,sB⟩:=ht.side;unfold m9;obtain⟨Y1,e1,F1⟩:=aR6 n W.r1.T kA.kd kB.kd htb;obtain⟨Y2,e2,F2⟩:=an8 (Y:=Y1) (n+1) .units hs ht;have t0:=oV W.r1.T.ok kB sB 0 .any rfl (by decide);have t1:=oV W.r1.T.ok kB sB 1 .unk rfl (by decide);have t13:=oV W.r1.T.ok kB sB 13 .err rfl (by decide);have hw:decide (t.kind=0∨t.kind=1∨t.kind=13)=qE t.tp:=by
  rw[Bool.decide_or,Bool.decide_or,t0,t1,t13];cases t.tp<;>rfl
 rw[hw,aJ8 sA sB]at e1;refine⟨Y2,?_,F1.trans F2⟩;rw[st W.wTab,st W.r1.T.frz,st (aH _),st (aH _),st e1,st (dS s),st (dS t),st (show aD (n+5) (.fn 148 0) [.str (S "units"),b0 s,b0 t] Y1=_ from e2),st (show aJ (.int 0) (ar5 (goT .units s t)) Y2=some (.bool (goT .units s t).1,Y2)from rfl)];exact ac6 _
def i6 (ρ:LE)(s t:Tm):Prop:=ρ (S "w")=some (.ref 12)∧ρ (S "s")=some (b0 s)∧ρ (S "t")=some (b0 t)∧ρ (S "one")=some (.int s.kind)∧ρ (S "other")=some (.int t.kind)
theorem i6.upd {ρ:LE}(h:i6 ρ s t){x:String}{v:V}(h1:decide (S "w"=S x)=false)(h2:decide (S "s"=S x)=false)(h3:decide (S "t"=S x)=false)(h4:decide (S "one"=S x)=false)(h5:decide (S "other"=S x)=false):i6 (Mine.Internal.upd ρ (S x) v) s t:=
 ⟨by rw[aI h1];exact h.1,by rw[aI h2];exact h.2.1,by rw[aI h3];exact h.2.2.1,by rw[aI h4];exact h.2.2.2.1,by rw[aI h5];exact h.2.2.2.2⟩
theorem bc2 (n:Nat)(W:WdS Y tb L nums at' turned rs1 rs2 rs4)(hL:L≤9000)(htb:tb.length < 80000)(hs:TmOk tb s)(ht:TmOk tb t){ρ:LE}(E:i6 ρ s t)(sub:Bool) :
  ∃Y' rs1' rs4',jL (aD (n+19)) ρ (.int (if sub then 4 else 1)) (rM (if sub then .subtype else .assign)) Y=some (false,Y')∧WdS Y' tb (L+100) nums at' turned rs1' rs2 rs4':=by
 refine Mine.Internal.Fl.go3 λΦ ret0=>?_;obtain⟨E1,E2,E3,E4,E5⟩:=E;unfold jL;rw[E1,E4,E5,E2,E3,aF,st W.wRels];cases sub with
 | false=>
  obtain⟨Y1,p,e1,post,hp⟩:=aJ0 (s:=s) (t:=t) n W.r1 W.i1 W.q1 (.inl W.m1) (by lia) htb hs ht;obtain⟨rs1',W1,_⟩:=W.ask1 hp post;rw[W.m1,if_pos rfl]at e1;obtain⟨Y2,e2,F2⟩:=an8 (Y:=Y1) (n+15) .assign hs ht;refine ret0 _ ⟨Y2,rs1',rs4,?_,W1.of F2⟩;rw[if_neg (by simp),st W.rel1,st W.r1.frz,aF,st (aH _),aF,st (aH _),st e1,st (show aA (rM (if false=true then .subtype else .assign)) Y1=some (rM .assign,Y1)from rfl),aF,st (dS s),aF,st (dS t),st e2];exact aG4 _
 | true=>
  obtain⟨Y1,p,e1,post,hp⟩:=aJ0 (s:=s) (t:=t) n W.r4 W.i4 W.q4 (.inr W.m4) (by lia) htb hs ht;obtain⟨rs4',W1⟩:=W.ask4 hp post;rw[W.m4,if_neg (by decide)]at e1;obtain⟨Y2,e2,F2⟩:=an8 (Y:=Y1) (n+15) .subtype hs ht;refine ret0 _ ⟨Y2,rs1,rs4',?_,W1.of F2⟩;rw[if_pos rfl,st W.rel4,st W.r4.frz,aF,st (aH _),aF,st (aH _),st e1,st (show aA (rM (if true=true then .subtype else .assign)) Y1=some (rM .subtype,Y1)from rfl),aF,st (dS s),aF,st (dS t),st e2];exact aG4 _
theorem bc1 (n:Nat){ρ:LE}(E:i6 ρ s t)(W:RW Y tb r rs)(I:RI tb rs)(Q:Rest rs L)(hm:rs.aE=1)(hL:L≤10000)(htb:tb.length < 80000)(hs:TmOk tb s)(ht:TmOk tb t) :
  ∃Y' Y1 p,jK (aD (n+19)) (.ref r) ρ Y=some (false,Y')∧eG tb r rs p Y Y1∧p.2.length < 50∧Fr No Y1 Y':=by
 refine Mine.Internal.Fl.go3 λΦ ret0=>?_;obtain⟨E1,E2,E3,E4,E5⟩:=E;obtain⟨Y1,p,e1,post,hp⟩:=aJ0 (s:=s) (t:=t) n W I Q (.inl hm) hL htb hs ht;obtain⟨Y2,e2,F2⟩:=an8 (Y:=Y1) (n+15) .assign hs ht;rw[hm,if_pos rfl]at e1;refine ret0 _ ⟨Y2,Y1,p,?_,post,hp,F2⟩;unfold jK;rw[E2,E3,E4,E5,st W.frz,aF,st (aH _),aF,st (aH _),st e1,aF,st (dS s),aF,st (dS t),st (show aD (n+19) (.fn 148 0) [.str (S "assign"),b0 s,b0 t] Y1=_ from e2)];exact aG4 _
theorem aW2 (n:Nat)(W:WdS Y tb L nums at' turned rs1 rs2 rs4)(htb:tb.length < 80000)(hs:TmOk tb s)(ht:TmOk tb t) :
  ∃Y',aD (n+5) (.fn 83 0) [.ref 0,.int s.kind,.int t.kind] Y=some (.bool (pH true s.tp s.atoms t.tp t.atoms),Y')∧Fr No Y Y':=by
 obtain⟨A,kA,sA⟩:=hs.side;obtain⟨B,kB,sB⟩:=ht.side;obtain⟨Y1,e1,F1⟩:=ax7 n W.r1.T kA.kd kB.kd htb;have s2:=oV W.r1.T.ok kA sA 2 .nev rfl (by decide);have t2:=oV W.r1.T.ok kB sB 2 .nev rfl (by decide);rw[Bool.decide_or,s2,t2,aN3 sA sB]at e1;exact⟨Y1,e1,F1⟩
theorem bn2 (n:Nat)(W:WdS Y tb L nums at' turned rs1 rs2 rs4)(hL:L≤10000)(htb:tb.length < 80000)(hs:TmOk tb s)(ht:TmOk tb t) :
  ∃Y' rs2',aD (n+18) (.fn 110 2) [.ref 21,.int s.kind,.int t.kind] Y=some (.bool (pH false s.tp s.atoms t.tp t.atoms),Y')∧WdS Y' tb (L+100) nums at' turned rs1 rs2' rs4:=by
 refine Mine.Internal.Fl.go2 λΦ ret0=>?_;obtain⟨A,kA,sA⟩:=hs.side;obtain⟨B,kB,sB⟩:=ht.side;have Q:=W.q2;obtain⟨Y1,e1,post⟩:=bN5 n W.r2 W.i2 (.inr (.inl W.m2)) kA kB (by have:=Q.l;lia) (by have:=Q.d;lia) (by have:=Q.n;lia) (by have:=Q.k;lia) Q.t htb;have hlen:=bf8 (m:=rs2.aE) (.inr (.inl W.m2)) sA sB;obtain⟨rs2',W1⟩:=W.ask2 hlen post;rw[W.m2,(aD7 (as:=s.atoms) (bs:=t.atoms) sA sB).2.2]at e1;exact ret0 _ ⟨Y1,rs2',e1,W1⟩
theorem aL8 (n:Nat)(W:WdS Y tb L nums at' turned rs1 rs2 rs4)(hL:L≤9000)(htb:tb.length < 80000)(hs:TmOk tb s)(ht:TmOk tb t){ρ:LE}(E:i6 ρ s t) :
  ∃Y' rs2',jM (aD (n+18)) ρ Y=some (.bool true,Y')∧WdS Y' tb (L+100) nums at' turned rs1 rs2' rs4:=by
 refine Mine.Internal.Fl.go2 λΦ ret0=>?_;obtain⟨E1,E2,E3,E4,E5⟩:=E;obtain⟨Y1,e1,F1⟩:=aW2 (n+13) W htb hs ht;obtain⟨Y2,e2,F2⟩:=bt9 (Y:=Y1) (n+15) true hs ht;have W2:=W.of (F1.trans F2);obtain⟨Y3,rs2',e3,W3⟩:=bn2 n W2 (by lia) htb hs ht;obtain⟨Y4,e4,F4⟩:=bt9 (Y:=Y3) (n+15) false hs ht;refine ret0 _ ⟨Y4,rs2',?_,W3.of F4⟩;unfold jM;have eT:m6 (aD (n+18)) ρ Y=some (false,Y2):=by
  unfold m6;rw[E1,E2,E3,E4,E5,aF,st W.wTab,st W.r1.T.frz,aF,st (aH _),aF,st (aH _),st e1,aF,st (dS s),aF,st (dS t),st (show aD (n+18) (.fn 149 0) [.str (S "plain"),b0 s,b0 t] Y1=_ from e2)];exact ac6 _
 rw[st eT,if_neg (by simp)];unfold tR;rw[E1,E2,E3,E4,E5];rw[i0,aC,st W2.wRels,aC,st W2.rel2,aC,st W2.r2.mAsk,i0,z6,st (aH _),i0,z6,st (aH _),aC,st (show bD (aD (n+18)) (.py 110 2) (S "ask") (.ref 21) [.int s.kind,.int t.kind] Y2=_ from e3),i0,aC,st (dS s),i0,aC,st (dS t),aC,
  st (show aD (n+18) (.fn 149 0) [.str (S "compare"),b0 s,b0 t] Y3=_ from e4),st (bJ1 _)]
 rfl
end
section
variable {Y Y':H}{tb tb':List Row}{n r L:Nat}{rs rs1 rs2 rs4:RS}{call:CT}{nums:List V}{at':Nat}{turned:Bool}{s t:Tm}
def Wd (Y:H)(tb:List Row)(L:Nat)(nums:List V)(at':Nat)(turned:Bool):Prop:=∃rs1 rs2 rs4,WdS Y tb L nums at' turned rs1 rs2 rs4
theorem bc4 {ρ:LE}{k:LE→M V}(sub:Bool)(h:jL call ρ (.int (if sub then 4 else 1)) (rM (if sub then .subtype else .assign)) Y=some (false,Y')) :
  jO call (.tup [rM (if sub then .subtype else .assign),.int (if sub then 4 else 1)]) ρ k Y=k (upd (upd ρ (S "how") (rM (if sub then .subtype else .assign))) (S "mode") (.int (if sub then 4 else 1))) Y':=by
 unfold jO;simp only[uJ,pO,uV];rw[st h];rfl
theorem bc3 {ρ:LE}{k:LE→M V}{x:V}(h:jK call x ρ Y=some (false,Y')):jN call x ρ k Y=k (upd ρ (S "rel") x) Y':=by
 unfold jN;rw[st h];rfl
theorem bS5 {f:V→LE→(LE→M V)→M V}{x y:V}{ρ:LE}{k:LE→M V}:b9 (ret ()) f [x,y] ρ k Y=f x ρ (λρ'=>f y ρ' k) Y:=rfl
theorem bE9 {m n tq:Nat}(a1:tq=17∨46≤tq)(hq:tq < n)(ln:46≤n)(h:i9 13 tq m):9 < m∧m < n:=by
 rcases h with rfl | rfl | rfl | rfl | rfl
 iterate 4 exact⟨by decide,Nat.lt_of_lt_of_le (by decide) ln⟩
 exact⟨a1.elim (λe=>e▸by decide) λh=>Nat.lt_of_lt_of_le (by decide) h,hq⟩
theorem bE8 {m n:Nat}(h:m=0∨m=1∨m=2∨m=9∨m=n∨m=n+2∨m=n+3∨m=n+4∨m=n+6∨m=n+7)(h1:9 < m)(h2:m < n):False:=by
 rcases h with rfl | rfl | rfl | rfl | rfl | rfl | rfl | rfl | rfl | rfl
 iterate 4 exact absurd h1 (by decide)
 ·exact Nat.lt_irrefl _ h2
 iterate 5 exact Nat.not_lt.mpr (Nat.le_add_right _ _) h2
theorem bG3 {m n:Nat}(h:m < n∨n+8≤m):¬(m=n∨m=n+2∨m=n+3∨m=n+7∨m=n+4):=by
 rintro(rfl | rfl | rfl | rfl | rfl)<;>lia
theorem bi4 (n:Nat)(W:WdS Y tb L nums at' turned rs1 rs2 rs4)(hL:L≤8000)(htb:tb.length < 80000)(hs:TmOk tb s)(ht:TmOk tb t){ρ:LE}(E:i6 ρ s t) :
  ∃Y',iL (aD (n+19)) ρ Y=some (.bool true,Y')∧Wd Y' tb (L+200) nums at' turned:=by
 have E':=E;obtain⟨E1,E2,E3,E4,E5⟩:=E;unfold iL;have e5:m7 (aD (n+19)) ρ Y=some (decide (((s.ones.length * t.ones.length:Nat):Int) < 7),Y):=by
  unfold m7;have h1:=hs.lo;have h2:=ht.lo;rw[E2,aF,st (sN s),st (kW _),E3,aF,st (sN t),st (kW _)];rw[st (show i8 .Mult (.int ((s.ones.map cJ).length:Nat)) (.int ((t.ones.map cJ).length:Nat)) Y=some (.int ((s.ones.length * t.ones.length:Nat):Int),Y)from by
   show(if((s.ones.map cJ).length:Int).natAbs < 1000∧((t.ones.map cJ).length:Int).natAbs < 1000 then ret (V.int ((s.ones.map cJ).length * (t.ones.map cJ).length))else fail) Y=_;rw[if_pos (by simp;lia)];simp[ret]),pJ]
 rw[st e5];by_cases q:((s.ones.length * t.ones.length:Nat):Int) < 7
 ·rw[if_pos (decide_eq_true q)];unfold tO;rw[E1,aF,st W.wRels,st W.rel1,st W.r1.frz,aF,st W.wHost,st W.r1.frzHost,st (bA1 (n+17) 1)];have hF0:Fr No Y (Y++gH Y.length 1):=by
   refine⟨by simp,λm o h _=>?_⟩;rw[List.getElem?_append_left (lV h)];exact h
  have W0:=W.of hF0;have RN:RW (Y++gH Y.length 1) tb Y.length (xK 1 Y.length):=bX0 W.r1.T W.r1.host 1;rw[st RN.frz,st (eQ _)];show ∃Y',b9 (ret ()) (jN (aD (n+19))) [.ref 13,.ref Y.length] ρ (jM (aD (n+19))) (Y++gH Y.length 1)=_∧_;obtain⟨Y1,Y1',p1,e1,post1,hp1,F1⟩:=bc1 n E' W0.r1 W0.i1 W0.q1 W0.m1 (by lia) htb hs ht;obtain⟨rs1',W1,hz⟩:=W0.ask1 hp1 post1;have W1':=W1.of F1;have lt:=W.tlt;have a1:=W.a1;have ln:=W.ln;have RN1:RW Y1 tb Y.length (xK 1 Y.length):=by
   obtain⟨_,_,_,Fq,_⟩:=post1;refine(RN.fr Fq λm h=>?_).fr F1 λ_ _=>id;exact λq=>have k:=bE9 a1 lt.1 ln q;bE8 h k.1 k.2
  have IN:RI tb (xK 1 Y.length):=⟨λk b h=>by simp[xK]at h,λk h=>by simp[xK]at h,by simp[xK]⟩;have EU:i6 (upd ρ (S "rel") (.ref 13)) s t:=E'.upd (by nofun) (by nofun) (by nofun) (by nofun) (by nofun);obtain⟨Y2,Y2',p2,e2,post2,hp2,F2⟩:=bc1 n (L:=0) EU RN1 IN ⟨rfl,rfl,by simp[xK],by simp[xK],by simp[xK]⟩ rfl (by lia) htb hs ht;have lt0:=W0.tlt;have hlen:(Y++gH Y.length 1).length=Y.length+8:=by rw[List.length_append];rfl
  have W2:WdS Y2' tb (L+100) nums at' turned rs1' rs2 rs4:=by
   obtain⟨_,_,_,Fq,_⟩:=post2;refine W1'.frP Fq λm h=>?_;exact bG3 (h.elim (λh=>.inl (Nat.lt_of_lt_of_le h ln)) λh=>h.elim (λh=>h▸hz.elim (λe=>.inl (e▸lt.1)) λq=>.inr (hlen▸q)) λh=>h.elim (λh=>.inl (h▸lt.2.1)) λh=>.inl (h▸lt.2.2))
  have W2':=W2.of F2;have EU2:i6 (upd (upd ρ (S "rel") (.ref 13)) (S "rel") (.ref Y.length)) s t:=EU.upd (by nofun) (by nofun) (by nofun) (by nofun) (by nofun);obtain⟨Y3,rs2',e3,W3⟩:=aL8 (n+1) W2' (by lia) htb hs ht EU2;refine⟨Y3,?_,rs1',rs2',rs4,W3⟩;exact bS5.trans ((bc3 e1).trans ((bc3 e2).trans e3))
 ·rw[if_neg (by simpa using q)];obtain⟨Y3,rs2',e3,W3⟩:=aL8 (n+1) W (by lia) htb hs ht E';refine⟨Y3,?_,rs1,rs2',rs4,W3.mono (by lia)⟩;exact e3
theorem bU5 (n:Nat)(W:Wd Y tb L nums at' turned)(hL:L≤7000)(htb:tb.length < 80000)(hs:TmOk tb s)(ht:TmOk tb t) :
  ∃Y',aD (n+20) (.fn 152 0) [.ref 12,b0 s,b0 t] Y=some (.bool true,Y')∧Wd Y' tb (L+400) nums at' turned:=by
 refine Mine.Internal.Fl.go1 λΦ ret0=>?_;obtain⟨rs1,rs2,rs4,W⟩:=W;rw[at8];unfold aj1;obtain⟨Y1,e1,F1⟩:=bF7 (n+14) W htb hs ht;have W1:=W.of F1;obtain⟨Y2,e2,F2⟩:=bF6 (n+14) W1 htb hs ht;have W2:=W1.of F2;have E0:i6 (upd (upd (upd (upd (upd (upd e0 (S "w") (.ref 12)) (S "s") (b0 s)) (S "t") (b0 t)) (S "one") (.int s.kind)) (S "other") (.int t.kind)) (S "blind") (.bool (decide (s.tp=.err)&&decide (t.tp=.nev)))) s t:=by
  refine i6.upd ⟨?_,?_,?_,?_,bE⟩ (by nofun) (by nofun) (by nofun) (by nofun) (by nofun)
  ·rw[aI (by nofun),aI (by nofun),aI (by nofun),aI (by nofun),bE]
  ·rw[aI (by nofun),aI (by nofun),aI (by nofun),bE]
  ·rw[aI (by nofun),aI (by nofun),bE]
  ·rw[aI (by nofun),bE]
 obtain⟨Y3,ra,rb,e3,W3⟩:=bc2 n W2 (by lia) htb hs ht E0 false;have E1:=(E0.upd (x:="how") (v:=rM .assign) (by nofun) (by nofun) (by nofun) (by nofun) (by nofun)).upd (x:="mode") (v:=.int 1) (by nofun) (by nofun) (by nofun) (by nofun) (by nofun);obtain⟨Y4,rc,rd,e4,W4⟩:=bc2 n W3 (by lia) htb hs ht E1 true;have E2:=(E1.upd (x:="how") (v:=rM .subtype) (by nofun) (by nofun) (by nofun) (by nofun) (by nofun)).upd (x:="mode") (v:=.int 4) (by nofun) (by nofun) (by nofun) (by nofun) (by nofun);obtain⟨Y5,e5,W5⟩:=bi4 n W4 (by lia) htb hs ht E2;refine ret0 _ ⟨Y5,?_,W5⟩;rw[st (be9 s),st (be9 t),st (aJ7 (p:=decide (s.tp=.err)) (q:=decide (t.tp=.nev)) (by rw[st (bz1 s),(bq3 _).1]) λ_=>by rw[aC,st (bz1 t),st (bq3 _).2];rfl),st e1,if_neg (by simp),st e2,if_neg (by simp),
  st (eQ _)]
 show b9 (ret ()) (jO (aD (n+19))) [.tup [rM (if false=true then .subtype else .assign),.int (if false=true then 4 else 1)],.tup [rM (if true=true then .subtype else .assign),.int (if true=true then 4 else 1)]] _ (iL (aD (n+19))) Y2=_;exact bS5.trans ((bc4 false e3).trans ((bc4 true e4).trans e5))
end
theorem bH5:([true,false].all λf=>[true,false].all λg=>bX.all λa=>bX.all λb=>uZ (rY a f) (rY b g)==rN .no [a] .no [b])=true:=by nofun
theorem bv4:(u8.all λs=>u8.all λt=>(s==.nev||t==.nev)||uZ (uL s) (uL t))=true:=by nofun
theorem aO1:([true,false].all λf=>u8.all λs=>bX.all λa=>(s==.nev)||(uZ (uL s) (rY a f)&&uZ (rY a f) (uL s)))=true:=by nofun
theorem bv3:(u8.all λs=>u8.all λt=>bR (uL s) (uL t)==(fH .plain s [] [] t []).1)=true:=by nofun
theorem aO0:(u8.all λs=>bX.all λa=>bR (uL s) (uA a)==(fH .plain s [] [] .no [a]).1&&bR (uA a) (uL s)==(fH .plain .no [a] [a] s []).1)=true:=by nofun
theorem bH4:(bX.all λa=>decide (bP [a]=[a]))=true:=by nofun
def bt4 (o:OneD)(a b:U):Prop:=(o.tp=.no∧∃x fr,o.atoms=[x]∧a=rY x fr∧b=uA x)∨(o.tp≠.no∧o.atoms=[]∧a=uL o.tp∧b=uL o.tp)
section
variable {Y Y':H}{tb tb':List Row}{n r L:Nat}{rs rs1 rs2 rs4:RS}{call:CT}{nums:List V}{at':Nat}{turned:Bool}{s t:Tm}{x y:OneD}
theorem oQ.u (h:oQ tb x):∃a b,bt4 x a b∧tb[x.kind]?=some (.u a)∧tb[x.still]?=some (.u b):=by
 rcases h with⟨h1,a,fr,h2,h3,h4⟩ | ⟨h1,h2,h3,h4⟩
 ·exact⟨_,_,.inl ⟨h1,a,fr,h2,rfl,rfl⟩,h3,h4⟩
 ·exact⟨_,_,.inr ⟨h1,h2,rfl,rfl⟩,h3,by rw[h4];exact h3⟩
theorem aU9 {a b c d:U}(h:bt4 x a b)(h2:bt4 y c d):bR b d=(fH .plain x.tp x.atoms (bP x.atoms) y.tp y.atoms).1:=by
 rcases h with⟨h1,p,f,h3,rfl,rfl⟩ | ⟨h1,h3,rfl,rfl⟩<;>rcases h2 with⟨g1,q,g,g3,rfl,rfl⟩ | ⟨g1,g3,rfl,rfl⟩
 ·rw[h1,h3,g1,g3,beq_iff_eq.mp (wW be4 p q)];show _=eE false [p] [q];rw[nJ];simp
 ·have:=zA (zA aO0 y.tp (gO g1)) p (cC p)
  simp only[Bool.and_eq_true,beq_iff_eq]at this;rw[h1,h3,g3,zD (zA bH4 p (cC p))];exact this.2
 ·have:=zA (zA aO0 x.tp (gO h1)) q (cC q)
  simp only[Bool.and_eq_true,beq_iff_eq]at this;rw[h3,g1,g3];exact this.1
 ·have:=zA (zA bv3 x.tp (gO h1)) y.tp (gO g1)
  rw[h3,g3];exact beq_iff_eq.mp this
theorem aV0 {a b c d:U}(h:bt4 x a b)(h2:bt4 y c d)(hx:x.tp≠.nev)(hy:y.tp≠.nev):uZ a c=rN x.tp x.atoms y.tp y.atoms:=by
 have bx:(x.tp==Tp.nev)=false:=by simpa using hx
 have by':(y.tp==Tp.nev)=false:=by simpa using hy
 rcases h with⟨h1,p,f,h3,rfl,rfl⟩ | ⟨h1,h3,rfl,rfl⟩<;>rcases h2 with⟨g1,q,g,g3,rfl,rfl⟩ | ⟨g1,g3,rfl,rfl⟩
 ·rw[h1,h3,g1,g3];exact beq_iff_eq.mp (wW (zA (zA bH5 f (by cases f<;>simp)) g (by cases g<;>simp)) p q)
 ·have:=zA (zA (zA aO1 f (by cases f<;>simp)) y.tp (gO g1)) p (cC p)
  rw[by',Bool.false_or,Bool.and_eq_true]at this;rw[this.2];unfold rN;rw[if_pos (by simp[g1])]
 ·have:=zA (zA (zA aO1 g (by cases g<;>simp)) x.tp (gO h1)) q (cC q)
  rw[bx,Bool.false_or,Bool.and_eq_true]at this;rw[this.1];unfold rN;rw[if_pos (by simp[h1])]
 ·have:=zA (zA bv4 x.tp (gO h1)) y.tp (gO g1)
  rw[bx,by',Bool.false_or,Bool.false_or]at this;rw[this];unfold rN;rw[if_pos (by simp[h1])]
theorem bE0 (a b:Tp):aK .NotIn (.str (S "never")) (.tup [dH a,dH b]) Y=some (!(decide (a=.nev)||decide (b=.nev)),Y):=by
 cases a<;>cases b<;>ext
theorem bd9 (a:Tp):aA (dH a) Y=some (dH a,Y):=by cases a<;>rfl
theorem be1 (o:OneD):aA (cJ o) Y=some (cJ o,Y):=rfl
theorem bc6 (h:oQ tb x):x.atoms.length≤10:=by
 rcases h with⟨_,a,_,h,_⟩ | ⟨_,h,_⟩<;>rw[h]<;>simp
theorem bi2 (n:Nat)(W:Wd Y tb L nums at' turned)(hx:oQ tb x)(hy:oQ tb y){ρ:LE}(h1:ρ (S "w")=some (.ref 12))(h2:ρ (S "a")=some (cJ x)) :
  ∃Y' b,Fr No Y Y'∧∀k,eK (aD (n+4)) (cJ y) ρ k Y=k (upd (upd ρ (S "b") (cJ y)) (S "told") (.bool b)) Y':=by
 obtain⟨rs1,rs2,rs4,W⟩:=W;obtain⟨xa,xb,ux,x1,x2⟩:=hx.u;obtain⟨ya,yb,uy,y1,y2⟩:=hy.u;have lx:=bc6 hx;have ly:=bc6 hy;have ll:=aN7 x.atoms;obtain⟨Y1,e1,F1⟩:=bA5 (Y:=Y) n .plain x.tp y.tp (.int x.kind) (.int x.still) (.lst []) (.int y.kind) (.int y.still) (a9 (bP y.atoms)) (.lst []) x.atoms (bP x.atoms) y.atoms (by lia) (by lia) (by lia);have W1:=W.of F1;obtain⟨Y2,e2,F2⟩:=bK3 (Y:=Y1) (n+1) x.tp y.tp (.int x.kind) (.int x.still) (a9 (bP x.atoms)) (.lst []) (.int y.kind) (.int y.still) (a9 (bP y.atoms)) (.lst []) x.atoms y.atoms (by lia) (by lia);have eT1:lO (aD (n+4)) ρ (cJ y) Y=some (false,Y1):=by
  unfold lO;rw[h1,h2,aF,st W.wTab,st W.r1.T.frz,aF,st (show aJ (.str (S "still")) (cJ x) Y=some (.int x.still,Y)from be8),st (aH _),st (show aJ (.str (S "still")) (cJ y) Y=some (.int y.still,Y)from be8),st (aH _),st (lB (n+2) W.r1.T x2 y2),
   aF,st (be1 x),st (be1 y),st (show aD (n+4) (.fn 148 0) [.str (S "plain"),cJ x,cJ y] Y=_ from e1),st (show aJ (.int 0) (.tup [.bool (fH .plain x.tp x.atoms (bP x.atoms) y.tp y.atoms).1,_]) Y1=some (.bool (fH .plain x.tp x.atoms (bP x.atoms) y.tp y.atoms).1,Y1)from rfl),aU9 ux uy]
  exact ac6 _
 have eTold:(aB (aQ (ρ (S "a")) λr28=>aB (aJ (.str (S "top")) r28) λv29=>aB (aA v29) λf30=>aB (aJ (.str (S "top")) (cJ y)) λv31=>aB (aA v31) λf32=>aK .NotIn (.str (S "never")) (.tup [f30,f32])) (λb=>ret b)) Y1=some (!(decide (x.tp=.nev)||decide (y.tp=.nev)),Y1):=by
  rw[gA,h2,aF,st (show aJ (.str (S "top")) (cJ x) Y1=some (dH x.tp,Y1)from bz0),st (bd9 _),st (show aJ (.str (S "top")) (cJ y) Y1=some (dH y.tp,Y1)from bz0),st (bd9 _),bE0]
 rw[gA]at eTold;by_cases q:x.tp=.nev∨y.tp=.nev
 ·have eb:(!(decide (x.tp=.nev)||decide (y.tp=.nev)))=false:=by rcases q with h | h<;>simp[h]
  rw[eb]at eTold;refine⟨Y1,false,F1,λk=>?_⟩;unfold eK;rw[st eT1,if_neg (by simp),st eTold,st (show iJ (aD (n+4)) false ρ (cJ y) Y1=some (false,Y1)from rfl)];rfl
 ·simp only[not_or]at q;have eb:(!(decide (x.tp=.nev)||decide (y.tp=.nev)))=true:=by simp[q.1,q.2]
  rw[eb]at eTold;have eT2:iJ (aD (n+4)) true ρ (cJ y) Y1=some (false,Y2):=by
   unfold iJ;rw[h1,h2,st (bJ _),dA,i0,aC,st W1.wTab,aC,st W1.r1.T.frz,i0,aC,st (show aJ (.str (S "kind")) (cJ x) Y1=some (.int x.kind,Y1)from aI2),aC,st (aH _),aC,st (show aJ (.str (S "kind")) (cJ y) Y1=some (.int y.kind,Y1)from aI2),aC,st (aH _),aC,
    st (ax8 n W1.r1.T x1 y1),i0,aC,st (be1 x),aC,st (be1 y),aC,st (show aD (n+4) (.fn 150 0) [cJ x,cJ y] Y1=_ from e2),aV0 ux uy q.1 q.2,st (ac6 _)]
   rfl
  refine⟨Y2,true,F1.trans F2,λk=>?_⟩;unfold eK;rw[st eT1,if_neg (by simp),st eTold,st eT2];rfl
theorem aR7 (n:Nat)(W:Wd Y tb L nums at' turned)(hs:TmOk tb s)(ht:TmOk tb t) :
  ∃Y',aD (n+5) (.fn 153 0) [.ref 12,b0 s,b0 t] Y=some (.bool true,Y')∧Fr No Y Y':=by
 refine Mine.Internal.Fl.go1 λΦ ret0=>?_;rw[ai9];unfold y6;rw[st (sN s),st (n8 _)];obtain⟨ρ',Y1,⟨F1,_⟩,e⟩:=aH8 (enc:=cJ) (w:=ret ()) (f:=iK (aD (n+4)))
  (λl ρ Y'=>Fr No Y Y'∧ρ (S "w")=some (.ref 12)∧ρ (S "t")=some (b0 t)∧∀o∈l,oQ tb o) (λ_ _ _ _=>rfl)
  (λx l ρ Y1 hI=>by
   obtain⟨F1,g1,g2,g3⟩:=hI;have hx:=g3 x zS;obtain⟨ρ2,Y2,⟨F2,k1,k2,_⟩,e2⟩:=aH8 (enc:=cJ) (w:=ret ()) (f:=eK (aD (n+4)))
    (λl ρ' Y2=>Fr No Y Y2∧ρ' (S "w")=some (.ref 12)∧ρ' (S "t")=some (b0 t)∧ρ' (S "a")=some (cJ x)∧∀o∈l,oQ tb o) (λ_ _ _ _=>rfl)
    (λy l ρ' Y2 hI=>by
     obtain⟨F2,k1,k2,k3,k4⟩:=hI;have W2:Wd Y2 tb L nums at' turned:=by
      obtain⟨a,b,c,W⟩:=W;exact⟨a,b,c,W.of F2⟩
     obtain⟨Y3,b,F3,e3⟩:=bi2 n W2 hx (k4 y zS) k1 k3;refine⟨_,Y3,⟨F2.trans F3,?_,?_,?_,λo ho=>k4 o (zC _ ho)⟩,e3⟩
     ·rw[aI (by nofun),aI (by nofun)];exact k1
     ·rw[aI (by nofun),aI (by nofun)];exact k2
     ·rw[aI (by nofun),aI (by nofun)];exact k3) t.ones (upd ρ (S "a") (cJ x)) Y1
    ⟨F1,by rw[aI (by nofun)];exact g1,by rw[aI (by nofun)];exact g2,bE,ht.ones⟩
   refine⟨ρ2,Y2,⟨F2,k1,k2,λo ho=>g3 o (zC _ ho)⟩,λk=>?_⟩;unfold iK;rw[g2,aF,st (sN t),st (n8 _),show ∀k,b9 (still (t.ones.map cJ) (aP (.lst (t.ones.map cJ)))) (eK (aD (n+4))) (t.ones.map cJ) _ k Y1=k ρ2 Y2 from e2];rfl) s.ones (upd (upd (upd e0 (S "w") (.ref 12)) (S "s") (b0 s)) (S "t") (b0 t)) Y
  ⟨Fr.rfl,by rw[aI (by nofun),aI (by nofun),bE],bE,hs.ones⟩
 rw[show ∀k,b9 (still (s.ones.map cJ) (aP (.lst (s.ones.map cJ)))) (iK (aD (n+4))) (s.ones.map cJ) _ k Y=k ρ' Y1 from e];exact ret0 _ ⟨Y1,rfl,F1⟩
end
section
variable {Y Y':H}{tb tb':List Row}{n r L:Nat}{rs rs1 rs2 rs4:RS}{call:CT}{nums:List V}{at':Nat}{turned:Bool}{s t:Tm}
theorem aU3 {r tr m c:Nat}(k:[0,1,2,9,r,r+2,r+3,r+6,r+7,c].all (λa=>decide (a≠12))=true)(q:tr=c∨46≤tr)(h:m=0∨m=1∨m=2∨m=9∨m=r∨m=r+2∨m=r+3∨m=tr∨m=r+6∨m=r+7):m≠12:=by
 rcases aE9 h with h | h
 ·exact zD (zA k m (List.mem_append_left [c] h))
 ·exact h▸q.elim (λe=>e▸zD (zA k c (List.mem_append_right [0,1,2,9,r,r+2,r+3,r+6,r+7] (.head _)))) λh=>Nat.ne_of_gt (Nat.lt_of_lt_of_le (by decide) h)
theorem WdS.setW (W:WdS Y tb L nums at' turned rs1 rs2 rs4)(a2:Nat)(t2:Bool):WdS (Y.set 12 (.dict (wD nums a2 t2))) tb L nums a2 t2 rs1 rs2 rs4:=by
 have F:Fr (λm=>m=12) Y (Y.set 12 (.dict (wD nums a2 t2))):=Fr.set rfl;exact { W with r1:=W.r1.fr F λm h=>aU3 (by decide) W.a1 h,r2:=W.r2.fr F λm h=>aU3 (by decide) W.a2 h,r4:=W.r4.fr F λm h=>aU3 (by decide) W.a4 h,w:=cS W.w,rels:=F.get W.rels (by decide),stat:=W.stat.fr F λm h=>zD (zA (show[3,10,37,38,40,41,43,44].all (λa=>decide (a≠12))=true from by decide) m (vA h)),ln:=zL W.ln F.1 }
def bu0:List Int:=[0,0,1,1,4,6,2,20,9,16,4,17,30,2,1,8,5,34,12,40,3,19,27,3]
theorem aB0 {l:List Int}{i:Nat}{v:Int}(h:l[i]?=some v):aJ (.int i) (.tup (l.map V.int)) Y=some (.int v,Y):=by
 have hi:i < l.length:=(zG h).1;show bL ((cA (.int i)).bind (fL (l.map V.int))) Y=_;have:fL (l.map V.int) (i:Int)=some (.int v):=by
  simp only[fL,az4,List.length_map];rw[if_pos (by lia),if_pos (by lia)];simp[h]
 simp only[show cA (.int (i:Int))=some (i:Int)from rfl,Option.bind_some,this,bL,Option.map_some]
theorem bv8 {l:List V}{i:Nat}{v:V}(h:l[i]?=some v):aJ (.int i) (.lst l) Y=some (v,Y):=by
 have hi:i < l.length:=(zG h).1;show bL ((cA (.int i)).bind (fL l)) Y=_;have:fL l (i:Int)=some v:=by
  simp only[fL,az4];rw[if_pos (by lia),if_pos (by lia)]
  simpa using h
 simp only[show cA (.int (i:Int))=some (i:Int)from rfl,Option.bind_some,this,bL,Option.map_some]
theorem aG6 {a b:Int}(h:0 < b):i8 .Mod (.int a) (.int b) Y=some (.int (a % b),Y):=by
 show(if 0 < b then ret (V.int (a % b))else fail) Y=_;rw[if_pos h];rfl
theorem bJ5 {a b:Int}(h:0 < b∧b < 1000):i8 .FloorDiv (.int a) (.int b) Y=some (.int (a / b),Y):=by
 show(if 0 < b∧b < 1000 then ret (V.int (a / b))else fail) Y=_;rw[if_pos h];rfl
theorem aZ6 (n:Nat)(W:WdS Y tb L nums at' turned rs1 rs2 rs4)(m:Int)(hm:0 < m):∃v:Nat,(v:Int) < m∧aD (n+1) (.fn 138 0) [.ref 12,.int m] Y=some (.int v,Y.set 12 (.dict (wD nums (at'+1) turned))):=by
 have W1:=W.setW (at'+1) turned;have key:∃x:Int,(aB (aB (aB (aJ (.str (S "nums")) (.ref 12)) λv28=>aB (jG "len" [v28]) λv29=>aK .Lt (.int at') v29) λc30=>
   if c30 then(aB (aJ (.str (S "nums")) (.ref 12)) λv31=>aB (aJ (.int at') v31) λv32=>ret v32)else(aB (i8 .Mod (.int at') (.int 24)) λv33=>aB (aJ v33 (.tup (bu0.map V.int))) λv34=>ret v34)) ret) (Y.set 12 (.dict (wD nums (at'+1) turned))) =
   some (.int x,Y.set 12 (.dict (wD nums (at'+1) turned))):=by
  rw[gA];rw[st (show(aB (aJ (.str (S "nums")) (.ref 12)) λv28=>aB (jG "len" [v28]) λv29=>aK .Lt (.int at') v29) _=some (decide ((at':Int) < nums.length),Y.set 12 (.dict (wD nums (at'+1) turned)))from by rw[st W1.wNums,st (kW _),pJ])];by_cases q:(at':Int) < nums.length
  ·rw[if_pos (decide_eq_true q),st W1.wNums];have h:at' < nums.length:=by lia
   obtain⟨i,hi⟩:=W.hn nums[at'] (List.getElem_mem h);rw[st (bv8 (List.getElem?_eq_getElem h)),hi];exact⟨i,rfl⟩
  ·rw[if_neg (by simpa using q),st (aG6 (by decide))];have h:at' % 24 < bu0.length:=Nat.mod_lt _ (by decide);have e:((at':Int) % 24)=((at' % 24:Nat):Int):=by lia
   rw[e,st (aB0 (List.getElem?_eq_getElem h))];exact⟨_,rfl⟩
 obtain⟨x,hx⟩:=key;rw[gA]at hx;have h0:=Int.emod_nonneg x (show m≠0 by lia);have h1:=Int.emod_lt_of_pos x hm;refine⟨(x % m).toNat,by lia,?_⟩;rw[as5];unfold ai3;have e2:((x % m).toNat:Int)=x % m:=by lia
 have hset:b7 (.str (S "next")) (.int ((at':Int)+1)) (.ref 12) Y=some ((),Y.set 12 (.dict (wD nums (at'+1) turned))):=by
  rw[gL W.w (by ext) (by show 7 < 100000;lia)];have:put (.str (S "next")) (.int ((at':Int)+1)) (wD nums at' turned)=wD nums (at'+1) turned:=by ext
  rw[this]
 rw[st W.wNext,st (show i8 .Add (.int at') (.int 1) Y=some (.int ((at':Int)+1),Y)from rfl),st hset];simp only[bu0,List.map_cons,List.map_nil]at hx;rw[st hx,st (aG6 hm),aH,e2]
def gE (i:Nat):List At:=if i < 19 then[bX.getD i .obj]else if i=19 then[.ff,.tt]else if i=20 then[.eA,.eB]else[.tP,.tQ]
theorem bU4 (n:Nat)(i:Nat)(h:i < 22):aD (n+1) (.fn 139 0) [.int i] Y=some (a9 (gE i),Y):=by
 rw[at4];exact List.map_inj_left.mp (show(List.range 22).map (λi:Nat=>ai5 (aD n) (.int i) Y)=(List.range 22).map λi=>some (a9 (gE i),Y)from by ext) i (List.mem_range.mpr h)
end
section
variable {Y Y':H}{tb tb':List Row}{n r L:Nat}{rs rs1 rs2 rs4:RS}{call:CT}{nums:List V}{at':Nat}{turned:Bool}{s t:Tm}
def fP (Y:H)(tb:List Row)(u:U)(m:M V):Prop:=∃t tb' Y',m Y=some (.int (t:Nat),Y')∧Tab 1 Y tb Y' tb'∧tb'[t]?=some (.u u)
theorem vH (n:Nat)(T:TabAt Y tb)(hl:tb.length < 90000){u:U}{row:V}(hr:row=cB (.u u)):fP Y tb u (aB (bF (S "put") (.ref 0)) λm=>cI (cG m) row λf5=>aB (bD (aD (n+1)) m (S "put") (.ref 0) [f5]) λv6=>aA v6):=by
 subst hr;obtain⟨t,tb',Y',e,a,b,_⟩:=bz8 n T (.u u) hl;refine⟨t,tb',Y',?_,a,b⟩;rw[st T.put,eF,st (fB _),st (show bD (aD (n+1)) (.py 58 3) (S "put") (.ref 0) [cB (.u u)] Y=_ from e),aH]
theorem fP.of {u:U}{m m':M V}(h:fP Y tb u m)(e:m' Y=m Y):fP Y tb u m':=by
 obtain⟨t,tb',Y',a,b,c⟩:=h;exact⟨t,tb',Y',e.trans a,b,c⟩
def u1 (f:Bool):Int:=if f then 1 else 0
theorem bz9 (n:Nat)(T:TabAt Y tb)(hl:tb.length < 90000)(v:V)(f:Bool)(u:U)(hv:∀Y,aA v Y=some (v,Y))(hr:V.tup [.int 4,v,.int (u1 f)]=cB (.u u)):fP Y tb u (aD (n+2) (.fn 62 0) [.ref 0,v,.int (u1 f)]):=by
 refine(vH n T hl hr).of ?_;rw[as2];unfold ah6;rw[st T.put,st (hv _),st (aH _),st T.put]
theorem bN4 (n:Nat)(T:TabAt Y tb)(hl:tb.length < 90000)(v:V)(f:Bool)(u:U)(hv:∀Y,aA v Y=some (v,Y))(hr:V.tup [.int 3,v,.int (u1 f)]=cB (.u u)):fP Y tb u (aD (n+2) (.fn 61 0) [.ref 0,v,.int (u1 f)]):=by
 refine(vH n T hl hr).of ?_;rw[ar9];unfold ag9;rw[st T.put,st (hv _),st (aH _),st T.put]
theorem bA7 (n:Nat)(T:TabAt Y tb)(hl:tb.length < 90000)(b f:Bool)(u:U)(hr:V.tup [.int 2,.int (u1 b),.int (u1 f)]=cB (.u u)):fP Y tb u (aD (n+2) (.fn 63 0) [.ref 0,.int (u1 b),.int (u1 f)]):=by
 refine(vH n T hl hr).of ?_;rw[ak6];unfold y8;rw[st T.put,aC,st (show aS (.int (u1 b)) Y=some (b,Y)from by cases b<;>rfl)];cases b
 ·rw[if_neg (by simp),cM,st (aH _),st (aH _),st T.put];rfl
 ·rw[if_pos rfl,cM,st (aH _),st (aH _),st T.put];rfl
theorem oL (n:Nat)(T:TabAt Y tb)(hl:tb.length < 90000){did d m:Nat}{brand:String}{ms:List V}{pre post:List V}{o v:V}{nm:V}{f:Bool}{u:U}(hdec:Y[3]?=some (.list [.none,.ref 37,.ref 40,.ref 43]))(h0:0 < did)(h4:did < 4)(hd:([V.none,.ref 37,.ref 40,.ref 43])[did]?=some (.ref d))
  (hi:Y[d]?=some (.inst 59 (ap2 did brand m))) (hm:Y[m]?=some (.list ms)) (hms:ms=pre++.tup [o,v]::post) (hpre:∀x∈pre,∃o' v',x=.tup [o',v']∧∀Y:H,aK .Eq v' v Y=some (false,Y)) (hv:∀Y:H,aK .Eq v v Y=some (true,Y))
  (fo:∀Y:H,aA o Y=some (o,Y)) (fv:∀Y:H,aA v Y=some (v,Y)) (hr:V.tup [.int 5,.int did,o,v,.int (u1 f)]=cB (.u u)):fP Y tb u (aD (n+2) (.fn 64 0) [.ref 0,.int did,nm,v,.int (u1 f)]):=by
 refine(vH n T hl hr).of ?_;rw[x7];unfold tN;have e1:(aB (aB (aK .Lt (.int 0) (.int did)) λc1=>if c1 then(aB (aR (S "decls") (.ref 0)) λv2=>aB (jG "len" [v2]) λv3=>aK .Lt (.int did) v3)else ret false) λc4=>
   if c4 then(aB (aR (S "decls") (.ref 0)) λv5=>aB (aJ (.int did) v5) λv6=>aB (aR (S "members") v6) λv7=>ret v7)else(ret (.lst []))) Y=some (.ref m,Y):=by
  rw[aC,st pJ,show decide ((0:Int) < did)=true by rw[decide_eq_true_iff];lia,if_pos rfl,aC,st T.decls,aC,st (len_list hdec),st pJ];rw[show decide ((did:Int) < (([V.none,.ref 37,.ref 40,.ref 43]).length:Nat))=true by rw[decide_eq_true_iff];simp;lia,if_pos rfl,st T.decls,st (aA9 hdec hd),st (bY hi (v:=.ref m) (by ext))];rfl
 rw[st e1,st (n9 hm)];have hit:∀(ρ:LE) k,ρ (S "tab")=some (.ref 0)→ρ (S "did")=some (.int did)→ρ (S "value")=some v→ρ (S "fresh")=some (.int (u1 f))→cX (aD (n+1)) (.tup [o,v]) ρ k Y =
   (aB (bF (S "put") (.ref 0)) λm=>cI (cG m) (.tup [.int 5,.int did,o,v,.int (u1 f)]) λf5=>aB (bD (aD (n+1)) m (S "put") (.ref 0) [f5]) λv6=>aA v6) Y:=λρ k g1 g2 g3 g4=>by
  unfold cX;simp only[uJ,pO,uV];unfold nZ;rw[g1,g2,g3,g4,aF,st (hv Y),if_pos rfl,aF,st T.put,aF,st (aH _),st (fo Y),aF,st (fv Y),aF,st (aH _),st T.put]
 have loop:∀(pre:List V) (ρ:LE) k,(∀x∈pre,∃o' v',x=.tup [o',v']∧∀Y:H,aK .Eq v' v Y=some (false,Y))→ρ (S "tab")=some (.ref 0)→ρ (S "did")=some (.int did)→ρ (S "value")=some v→ρ (S "fresh")=some (.int (u1 f))→
   b9 (still ms (some m)) (cX (aD (n+1))) (pre++.tup [o,v]::post) ρ k Y=(aB (bF (S "put") (.ref 0)) λm=>cI (cG m) (.tup [.int 5,.int did,o,v,.int (u1 f)]) λf5=>aB (bD (aD (n+1)) m (S "put") (.ref 0) [f5]) λv6=>aA v6) Y:=by
  intro pre
  induction pre with
  | nil=>
   intro ρ k _ g1 g2 g3 g4;show aB (still ms (some m)) _ Y=_;rw[st (lC hm)];exact hit ρ _ g1 g2 g3 g4
  | cons x pre ih=>
   intro ρ k hx g1 g2 g3 g4;obtain⟨o',v',rfl,hne⟩:=hx x zS;show aB (still ms (some m)) (λ_=>cX (aD (n+1)) (.tup [o',v']) ρ λρ'=>b9 (still ms (some m)) (cX (aD (n+1))) (pre++.tup [o,v]::post) ρ' k) Y=_;rw[st (lC hm)];refine Eq.trans ?_ (ih (upd (upd ρ (S "other") o') (S "held") v') k (λy hy=>hx y (zC _ hy)) ?_ ?_ ?_ ?_)
   ·unfold cX;simp only[uJ,pO,uV];rw[g3,aF,st (hne Y),if_neg (by simp)]
   ·rw[aI (by nofun),aI (by nofun)];exact g1
   ·rw[aI (by nofun),aI (by nofun)];exact g2
   ·rw[aI (by nofun),aI (by nofun)];exact g3
   ·rw[aI (by nofun),aI (by nofun)];exact g4
 subst hms;exact loop pre _ _ hpre (by rw[aI (by nofun),aI (by nofun),aI (by nofun),aI (by nofun),aI (by nofun),bE]) (by rw[aI (by nofun),aI (by nofun),aI (by nofun),aI (by nofun),bE])
  (by rw[aI (by nofun),aI (by nofun),bE]) (by rw[aI (by nofun),bE])
theorem hW {x:Str}:∀Y,aA (.str x) Y=some (V.str x,Y):=λ_=>rfl
theorem gJ {x:Int}:∀Y,aA (.int x) Y=some (V.int x,Y):=λ_=>rfl
theorem bf4 (n:Nat)(T:TabAt Y tb)(hl:tb.length < 90000)(St:Stat Y)(hw:Y[12]?=some (.dict (wD nums at' turned)))(a:At)(f:Bool):fP Y tb (rY a f) (aD (n+3) (.fn 140 0) [.ref 12,cO a,.int (u1 f)]):=by
 have wTab:aJ (.str (S "tab")) (.ref 12) Y=some (.ref 0,Y):=cY hw (by ext) (by ext);have bL7:aJ (.str (S "dids")) (.ref 12) Y=some (.ref 10,Y):=cY hw (by ext) (by ext);have key:∀(a:At) (i:Nat) (u:U),first[i]?=some (.u u)→aD (n+3) (.fn 140 0) [.ref 12,cO a,.int (u1 f)] Y=some (.int i,Y)→rY a f=u→fP Y tb (rY a f) (aD (n+3) (.fn 140 0) [.ref 12,cO a,.int (u1 f)]):=λa i u hi e hu=>
  ⟨i,tb,Y,e,(Tab.refl T).mono (by lia),by rw[hu];exact bG T.ok hi⟩
 have mem:∀(a:At) (w b nm:String) (v:V) (did d m:Nat) (ms pre post:List V) (o:V) (u:U),cO a=q4 w v b nm→aK .NotEq (.str (S b)) (.str (S "")) Y=some (true,Y)→dM (.str (S b)) [(.str (S "E"),V.int 1),(.str (S "T"),V.int 2),(.str (S "G"),V.int 3)]=some (.int did)→
   bM (.str (S b)) ([(V.str (S "E"),V.int 1),(.str (S "T"),V.int 2),(.str (S "G"),V.int 3)].map (·.1))=true→(∀Y,aA v Y=some (v,Y))→
   fP Y tb u (aD (n+2) (.fn 64 0) [.ref 0,.int did,.str (S nm),v,.int (u1 f)])→rY a f=u→fP Y tb (rY a f) (aD (n+3) (.fn 140 0) [.ref 12,cO a,.int (u1 f)]):=λa w b nm v did d m ms pre post o u he hb hlk hks hv hp hu=>by
  rw[hu];refine hp.of ?_;rw[dF,he];unfold uR;simp only[q4,uJ,pO,uV];rw[st hb,if_pos rfl,st wTab,st T.frz,st bL7,st (cY St.dids hks hlk),st (aH _),st (be0 _),st (hv Y),st (aH _)];obtain⟨t,tb',Y',e,_,_⟩:=hp;rw[st e,e];rfl
 have lit:∀(a:At) (j:Nat) (v:V) (u:U),(∀Y,aA v Y=some (v,Y))→uR (aD (n+2)) (.ref 12) (cO a) (.int (u1 f)) Y=(aB (aJ (.str (S "tab")) (.ref 12)) λv30=>aB (aA v30) λf31=>aB (aA v) λf32=>aB (aA (.int (u1 f))) λf33=>aB (aD (n+2) (.fn j 0) [f31,f32,f33]) λv34=>aA v34) Y→
   fP Y tb u (aD (n+2) (.fn j 0) [.ref 0,v,.int (u1 f)])→rY a f=u→fP Y tb (rY a f) (aD (n+3) (.fn 140 0) [.ref 12,cO a,.int (u1 f)]):=λa j v u hv he hp hu=>by
  rw[hu];refine hp.of ?_;rw[dF,he,st wTab,st T.frz,st (hv Y),st (aH _)];obtain⟨t,tb',Y',e,_,_⟩:=hp;rw[st e,e];rfl
 induction a using At.cs
 case eA=>exact mem _ "num" "E" "A" (.int 1) 1 0 0 [] [] [] .none (if f then .eaf else .ea) rfl (by ext) (by ext) (by ext) gJ (oL n T hl (brand:="E") St.dec (by lia) (by lia) rfl St.e St.em (pre:=[]) (o:=.str (S "A")) rfl (by simp) (λY=>by ext) hW gJ (by clear mem lit key;cases f<;>rfl)) (by clear mem lit key;cases f<;>rfl)
 case eC=>exact mem _ "num" "E" "C" (.int 1) 1 0 0 [] [] [] .none (if f then .eaf else .ea) rfl (by ext) (by ext) (by ext) gJ (oL n T hl (brand:="E") St.dec (by lia) (by lia) rfl St.e St.em (pre:=[]) (o:=.str (S "A")) rfl (by simp) (λY=>by ext) hW gJ (by clear mem lit key;cases f<;>rfl)) (by clear mem lit key;cases f<;>rfl)
 case eB=>exact mem _ "num" "E" "B" (.int 2) 1 0 0 [] [] [] .none (if f then .ebf else .eb) rfl (by ext) (by ext) (by ext) gJ (oL n T hl (brand:="E") St.dec (by lia) (by lia) rfl St.e St.em (pre:=[jV "A" (.int 1)]) (o:=.str (S "B")) rfl (λx hx=>by simp at hx;subst hx;exact⟨_,_,rfl,λY=>by ext⟩) (λY=>by ext) hW gJ (by clear mem lit key;cases f<;>rfl)) (by clear mem lit key;cases f<;>rfl)
 case tP=>exact mem _ "text" "T" "P" (.str (S "a")) 2 0 0 [] [] [] .none (if f then .tpf else .tp) rfl (by ext) (by ext) (by ext) hW (oL n T hl (brand:="T") St.dec (by lia) (by lia) rfl St.t St.tm (pre:=[]) (o:=.str (S "P")) rfl (by simp) (λY=>by ext) hW hW (by clear mem lit key;cases f<;>rfl)) (by clear mem lit key;cases f<;>rfl)
 case tQ=>exact mem _ "text" "T" "Q" (.str (S "b")) 2 0 0 [] [] [] .none (if f then .tqf else .tq) rfl (by ext) (by ext) (by ext) hW (oL n T hl (brand:="T") St.dec (by lia) (by lia) rfl St.t St.tm (pre:=[jV "P" (.str (S "a"))]) (o:=.str (S "Q")) rfl (λx hx=>by simp at hx;subst hx;exact⟨_,_,rfl,λY=>by ext⟩) (λY=>by ext) hW hW (by clear mem lit key;cases f<;>rfl)) (by clear mem lit key;cases f<;>rfl)
 case gX=>exact mem _ "num" "G" "X" (.int 1) 3 0 0 [] [] [] .none (if f then .gxf else .gx) rfl (by ext) (by ext) (by ext) gJ (oL n T hl (brand:="G") St.dec (by lia) (by lia) rfl St.g St.gm (pre:=[]) (o:=.str (S "X")) rfl (by simp) (λY=>by ext) hW gJ (by clear mem lit key;cases f<;>rfl)) (by clear mem lit key;cases f<;>rfl)
 case undef=>exact key _ 4 .und rfl (by rw[dF];ext) (by clear mem lit key;cases f<;>rfl)
 case void=>exact key _ 3 .void rfl (by rw[dF];ext) (by clear mem lit key;cases f<;>rfl)
 case null=>exact key _ 5 .nul rfl (by rw[dF];ext) (by clear mem lit key;cases f<;>rfl)
 case obj=>exact key _ 10 .obj rfl (by rw[dF];ext) (by clear mem lit key;cases f<;>rfl)
 case num=>exact key _ 7 .num rfl (by rw[dF];ext) (by clear mem lit key;cases f<;>rfl)
 case str=>exact key _ 6 .str rfl (by rw[dF];ext) (by clear mem lit key;cases f<;>rfl)
 case n1=>exact lit _ 62 (.int 1) (if f then .n1f else .n1) gJ (by ext) (bz9 n T hl _ f _ gJ (by clear mem lit key;cases f<;>rfl)) (by clear mem lit key;cases f<;>rfl)
 case n2=>exact lit _ 62 (.int 2) (if f then .n2f else .n2) gJ (by ext) (bz9 n T hl _ f _ gJ (by clear mem lit key;cases f<;>rfl)) (by clear mem lit key;cases f<;>rfl)
 case n7=>exact lit _ 62 (.int 7) (if f then .n7f else .n7) gJ (by ext) (bz9 n T hl _ f _ gJ (by clear mem lit key;cases f<;>rfl)) (by clear mem lit key;cases f<;>rfl)
 case sa=>exact lit _ 61 (.str (S "a")) (if f then .saf else .sa) hW (by ext) (bN4 n T hl _ f _ hW (by clear mem lit key;cases f<;>rfl)) (by clear mem lit key;cases f<;>rfl)
 case sb=>exact lit _ 61 (.str (S "b")) (if f then .sbf else .sb) hW (by ext) (bN4 n T hl _ f _ hW (by clear mem lit key;cases f<;>rfl)) (by clear mem lit key;cases f<;>rfl)
 case ff=>exact lit _ 63 (.int 0) (if f then .fff else .ff) gJ (by ext) (bA7 n T hl false f _ (by clear mem lit key;cases f<;>rfl)) (by clear mem lit key;cases f<;>rfl)
 case tt=>exact lit _ 63 (.int 1) (if f then .ftt else .tt) gJ (by ext) (bA7 n T hl true f _ (by clear mem lit key;cases f<;>rfl)) (by clear mem lit key;cases f<;>rfl)
end
theorem bX5:([true,false].all λf=>bX.all λa=>decide (aL (rY a f)=uA a)&&decide (wU (rY a f)=wU (uA a))&&cV (rY a f)&&!iV (uA a)&&decide (aL (uA a)=uA a))=true:=by nofun
theorem bQ7:(bX.all λw=>bX.all λa=>!(same w a&&!eY a)||decide (wU (uA a)=some (uA w)))=true:=by nofun
theorem bH0:([true,false].all λf=>bX.all λb=>bX.all λa=>!(decide (wU (uA a)=some (rY b f)))||(same b a&&!eY a))=true:=by nofun
theorem bQ8:([true,false].all λf=>bX.all λw=>!eY w||decide (rY w f=uA w))=true:=by nofun
theorem bQ9:([true,false].all λf=>bX.all λa=>(!(decide (rY a f=.ff)||decide (rY a f=.fff))||decide (a=.ff))&&(!(decide (rY a f=.tt)||decide (rY a f=.ftt))||decide (a=.tt)))=true:=by nofun
theorem bX4:(qC.all λu=>qC.all λv=>!(decide (aL u=aL v)&&!decide (u=v))||((iV u&&decide (v=aL u))||(iV v&&decide (u=aL v))))=true:=by nofun
theorem bH1:(bX.all λw=>!same w .ff&&!same w .tt)=true:=by nofun
theorem aU4 (a:At)(f:Bool):aL (rY a f)=uA a∧wU (rY a f)=wU (uA a)∧cV (rY a f)=true∧iV (uA a)=false∧aL (uA a)=uA a:=by
 have:=zA (zA bX5 f (by cases f<;>simp)) a (cC a);simp only[Bool.and_eq_true,decide_eq_true_eq,Bool.not_eq_true']at this;exact⟨this.1.1.1.1,this.1.1.1.2,this.1.1.2,this.1.2,this.2⟩
def fK (rows:List (At×Bool)):List U:=rows.map λx=>rY x.1 x.2
section
variable {rows:List (At×Bool)}{ks:List U}
theorem lD {u:U}:u∈fK rows↔∃x∈rows,u=rY x.1 x.2:=by
 unfold fK;rw[List.mem_map];constructor
 ·rintro⟨x,h,e⟩;exact⟨x,h,e.symm⟩
 ·rintro⟨x,h,e⟩;exact⟨x,h,e.symm⟩
theorem an2 {b:Bool}(h:(if b then U.tt else .ff)∈fK rows∨(if b then U.ftt else .fff)∈fK rows):(if b then At.tt else .ff)∈bP (rows.map (·.1)):=by
 have:∃x∈rows,x.1=(if b then At.tt else .ff):=by
  rcases h with h | h<;>obtain⟨x,hx,e⟩:=lD.mp h
  all_goals
   have:=zA (zA bQ9 x.2 (by cases x.2<;>simp)) x.1 (cC x.1);rw[←e]at this;refine⟨x,hx,?_⟩;cases b<;>simpa (decide:=true)using this
 obtain⟨x,hx,e⟩:=this;refine oD.mpr ⟨List.mem_map.mpr ⟨x,hx,e⟩,.inr λw _=>?_⟩;have:=zA bH1 w (cC w);simp only[Bool.and_eq_true,Bool.not_eq_true']at this;cases b
 ·exact this.1
 ·exact this.2
theorem aA6 (hk:∀u,u∈ks↔am9 (fK rows) u):qD ks (rows.map (·.1)):=by
 intro u;constructor
 ·intro h;obtain⟨x,hx,rfl⟩:=zM h;obtain⟨hj,hf,hw⟩:=(hk x).mp hx;rcases hj with hj | ⟨⟨h1,h2⟩,h3⟩
  ·obtain⟨p,hp,rfl⟩:=lD.mp hj;obtain⟨e1,e2,_⟩:=aU4 p.1 p.2;rw[e1];refine List.mem_map.mpr ⟨p.1,oD.mpr ⟨List.mem_map.mpr ⟨p,hp,rfl⟩,?_⟩,rfl⟩;by_cases hn:eY p.1=true
   ·exact .inl hn
   ·right;intro w hwm;obtain⟨q,hq,rfl⟩:=zM hwm;cases hs:same q.1 p.1 with
    | false=>rfl
    | true=>
     have l:=zA (zA bQ7 q.1 (cC q.1)) p.1 (cC p.1);simp only[Bool.not_eq_true]at hn;rw[hs,hn]at l;have l':wU (uA p.1)=some (uA q.1):=by simpa using l
     have hnq:eY q.1=true:=by unfold same at hs;simp only[Bool.and_eq_true]at hs;exact hs.1
     have l2:=zA (zA bQ8 q.2 (by cases q.2<;>simp)) q.1 (cC q.1);rw[hnq]at l2;have l3:rY q.1 q.2=uA q.1:=by simpa using l2
     exact absurd (lD.mpr ⟨q,hq,l3.symm⟩) (hw (uA q.1) (by rw[e2];exact l'))
  ·rcases h3 with rfl | rfl
   ·exact List.mem_map.mpr ⟨.ff,an2 (b:=false) h1,rfl⟩
   ·exact List.mem_map.mpr ⟨.tt,an2 (b:=true) h2,rfl⟩
 ·intro h;obtain⟨a,ha,rfl⟩:=zM h;obtain⟨hm,hl⟩:=oD.mp ha;obtain⟨p,hp,rfl⟩:=zM hm;obtain⟨e1,e2,_,e4,e5⟩:=aU4 p.1 p.2;have hin:rY p.1 p.2∈fK rows:=lD.mpr ⟨p,hp,rfl⟩;have hwh:∀w,wU (uA p.1)=some w→w∉fK rows:=λw hw hmem=>by
   obtain⟨q,hq,rfl⟩:=lD.mp hmem;have l:=zA (zA (zA bH0 q.2 (by cases q.2<;>simp)) q.1 (cC q.1)) p.1 (cC p.1);rw[hw]at l;simp only[decide_true,Bool.not_true,Bool.false_or,Bool.and_eq_true,Bool.not_eq_true']at l;rcases hl with hl | hl
   ·rw[hl]at l;cases l.2
   ·rw[hl q.1 (List.mem_map.mpr ⟨q,hq,rfl⟩)]at l;cases l.1
  by_cases hc:iV (rY p.1 p.2)=true∧wQ (fK rows) (aL (rY p.1 p.2))
  ·refine List.mem_map.mpr ⟨uA p.1,(hk _).mpr ⟨(by rw[←e1];exact hc.2),(λc=>by rw[e4]at c;exact absurd c.1 (by simp)),hwh⟩,e5⟩
  ·exact List.mem_map.mpr ⟨rY p.1 p.2,(hk _).mpr ⟨.inl hin,hc,λw hw=>hwh w (by rw[←e2];exact hw)⟩,e1⟩
theorem am8:∀u∈fK rows,cV u=true:=λu hu=>by
 obtain⟨x,_,rfl⟩:=lD.mp hu;exact(aU4 x.1 x.2).2.2.1
theorem aA7 (hk:∀u,u∈ks↔am9 (fK rows) u):∀u∈ks,cV u=true:=λu hu=>by
 rcases((hk u).mp hu).1 with h | ⟨_,rfl | rfl⟩
 ·exact am8 u h
 ·rfl
 ·rfl
theorem bH2 (hk:∀u,u∈ks↔am9 (fK rows) u):∀u∈ks,∀w,wU u=some w→w∉ks:=λu hu w hw hm=>by
 have h1:=((hk u).mp hu).2.2 w hw;rcases((hk w).mp hm).1 with h | ⟨_,h⟩
 ·exact h1 h
 ·obtain⟨_,_,_,_,a,b,_⟩:=bM2 hw;rcases h with h | h
  ·exact a h
  ·exact b h
theorem bv2 (hk:∀u,u∈ks↔am9 (fK rows) u):∀u∈ks,∀v∈ks,aL u=aL v→u=v:=λu hu v hv e=>by
 by_cases q:u=v
 ·exact q
 ·have l:=zA (zA bX4 u (eV u)) v (eV v)
  simp only[e,q,decide_true,decide_false,Bool.not_false,Bool.and_true,Bool.not_true,Bool.false_or,Bool.or_eq_true,Bool.and_eq_true,decide_eq_true_eq]at l;rcases l with⟨f,h⟩ | ⟨f,h⟩
  ·exact absurd ⟨f,by rw[e,←h];exact((hk v).mp hv).1⟩ ((hk u).mp hu).2.1
  ·exact absurd ⟨f,by rw[←h];exact((hk u).mp hu).1⟩ ((hk v).mp hv).2.1
theorem bG8 {as:List At}(h:as≠[]):bP as≠[]:=by
 cases as with
 | nil=>exact absurd rfl h
 | cons a as=>
  intro c;rcases sE (as:=a::as) (a:=a) zS with q | ⟨w,hw,_⟩
  ·rw[c]at q;cases q
  ·rw[c]at hw;cases hw
theorem bH3 (hk:∀u,u∈ks↔am9 (fK rows) u)(hr:rows≠[]):ks≠[]:=by
 have h:=bG8 (as:=rows.map (·.1)) (by simpa using hr);intro c;cases hl:bP (rows.map (·.1))with
 | nil=>exact h hl
 | cons a l=>
  have:=(aA6 hk (uA a)).mpr (List.mem_map.mpr ⟨a,by rw[hl];exact zS,rfl⟩);rw[c]at this;cases this
theorem aT5 (tb:List Row)(ps:List Nat):(cF tb ps).length≤ps.length+2:=by
 unfold cF;have h1:=List.length_filter_le (ar4 tb (cK (ps.foldl dQ []))) (mB (cK (ps.foldl dQ [])));have h2:=(fT (cK (ps.foldl dQ []))).length_eq;have h3:=aC0 ps [];have h4:(cK (ps.foldl dQ [])).length≤(ps.foldl dQ []).length+2:=by
  unfold cK dQ;split<;>(repeat' split)<;>simp<;>lia
 simp at h3;lia
end
theorem bj5 {tb tb':List Row}(T:TbOk tb)(T':TbOk tb')(hp:tb <+: tb'){ps:List Nat}{rows:List (At×Bool)}{t:Nat}(hr:Rows tb ps (fK rows))(hm:Made tb' (cF tb ps) t)(hne:rows≠[])(h5:rows.length≤5) :
  ∃ks,Term tb' t (cF tb ps) ks∧qD ks (rows.map (·.1))∧ks≠[]∧ks.length≤10∧∀u∈ks,cV u=true:=by
 obtain⟨ks,hk,hks⟩:=yU T hr;have hlen:ps.length=rows.length:=by rw[hr.len];simp[fK]
 have hl:=aT5 tb ps;have hkl:=hk.len;have hksne:=bH3 hks hne;refine⟨ks,⟨hk.pre hp,aA7 hks,hm,?_,bH2 hks,bv2 hks,oU _ _,by lia⟩,aA6 hks,hksne,by lia,aA7 hks⟩;intro c;rw[c]at hkl;simp at hkl;exact hksne (List.length_eq_zero_iff.mp hkl.symm)
section
variable {Y Y':H}{tb tb':List Row}{n r L o c:Nat}{rs rs1 rs2 rs4:RS}{call:CT}{nums:List V}{at':Nat}{turned:Bool}{s t:Tm}{xs ys:List V}
theorem RI.pre (h:RI tb rs)(hp:tb <+: tb'):RI tb' rs:=⟨h.kn.pre hp,h.tk,h.md⟩
theorem ax0 {m:Nat}(h:3≤m):¬T12 m:=by unfold T12;lia
theorem RW.grow {k:Nat}(W:RW Y tb r rs)(A:Tab k Y tb Y' tb'):RW Y' tb' r rs:=by
 have lo:=W.lo;have tlo:=W.tlo;have l3:3≤r:=zL (by decide) lo;have ad:∀k,3≤r+k:=λk=>zL l3 (Nat.le_add_right _ _);exact⟨A.at',A.fr.get W.host (ax0 (by decide)),A.fr.get W.i (ax0 l3),A.fr.get W.as_ (ax0 (ad _)),A.fr.get W.kn (ax0 (ad _)),A.fr.get W.tr (ax0 (zL (by decide) tlo)),A.fr.get W.no (ax0 (ad _)),A.fr.get W.nr (ax0 (ad _)),W.lo,W.tlo,W.t7,W.tnd,W.knd⟩
theorem WdS.grow {k:Nat}(W:WdS Y tb L nums at' turned rs1 rs2 rs4)(A:Tab k Y tb Y' tb'):WdS Y' tb' L nums at' turned rs1 rs2 rs4:=by
 exact⟨W.r1.grow A,W.r2.grow A,W.r4.grow A,W.i1.pre A.pre,W.i2.pre A.pre,W.i4.pre A.pre,W.m1,W.m2,W.m4,W.q1,W.q2,W.q4,W.t12,W.t14,W.t24,W.a1,W.a2,W.a4,A.fr.get W.w (ax0 (by decide)),W.hn,A.fr.get W.rels (ax0 (by decide)),W.stat.fr A.fr λm h=>ax0 (zD (zA (show[3,10,37,38,40,41,43,44].all (λa=>decide (3≤a))=true from by decide) m (vA h))),zL W.ln A.fr.1⟩
theorem aq9.pre {K:List Nat}{us:List U}(T:TbOk tb)(T':TbOk tb')(hp:tb <+: tb')(h:aq9 tb K us):aq9 tb' K us:=by
 obtain⟨R,a,b⟩:=h;refine⟨R,a.pre hp,λh1 h2=>?_⟩;rw[ad9 T T' hp a]at h2 ⊢;obtain⟨x,rfl⟩:=hp;exact List.mem_append_left _ (b h1 h2)
theorem KdS.pre {k:Nat}{S:Side}(T:TbOk tb)(T':TbOk tb')(hp:tb <+: tb')(h:KdS tb k S):KdS tb' k S:=by
 cases S with
 | top x=>exact⟨fZ hp h.1,h.2⟩
 | term us=>
  obtain⟨K,a,b⟩:=h;exact⟨K,a.pre hp,b.pre T T' hp⟩
theorem oQ.pre {x:OneD}(hp:tb <+: tb')(h:oQ tb x):oQ tb' x:=by
 rcases h with⟨h1,a,f,h2,h3,h4⟩ | ⟨h1,h2,h3,h4⟩
 ·exact .inl ⟨h1,a,f,h2,fZ hp h3,fZ hp h4⟩
 ·exact .inr ⟨h1,h2,fZ hp h3,h4⟩
theorem TmOk.pre (T:TbOk tb)(T':TbOk tb')(hp:tb <+: tb')(h:TmOk tb t):TmOk tb' t:=by
 obtain⟨S,a,b⟩:=h.side;exact⟨⟨S,a.pre T T' hp,b⟩,h.la,h.lo,λo ho=>(h.ones o ho).pre hp⟩
structure DS (Y:H) (tb:List Row) (L:Nat) (nums:List V) (at':Nat) (turned:Bool) (rs1 rs2 rs4:RS) (o:Nat) (xs:List V):Prop where
 W:WdS Y tb L nums at' turned rs1 rs2 rs4
 ho:Y[o]?=some (.list xs)
 l0:46≤o
 l1:rs1.tr < o
 l2:rs2.tr < o
 l4:rs4.tr < o
theorem WdS.setO (W:WdS Y tb L nums at' turned rs1 rs2 rs4)(l0:46≤o)(l1:rs1.tr < o)(l2:rs2.tr < o)(l4:rs4.tr < o)(x:O):WdS (Y.set o x) tb L nums at' turned rs1 rs2 rs4:=
 W.frP (P:=λm=>m=o) (Fr.set rfl) λm h e=>by subst e;exact h.elim (Nat.not_lt.mpr l0) λh=>h.elim (Nat.ne_of_gt l1) λh=>h.elim (Nat.ne_of_gt l2) (Nat.ne_of_gt l4)
theorem DS.set (D:DS Y tb L nums at' turned rs1 rs2 rs4 o xs)(ys:List V):DS (Y.set o (.list ys)) tb L nums at' turned rs1 rs2 rs4 o ys:=
 ⟨D.W.setO D.l0 D.l1 D.l2 D.l4 _,cS D.ho,D.l0,D.l1,D.l2,D.l4⟩
theorem DS.take (D:DS Y tb L nums at' turned rs1 rs2 rs4 o xs)(a2:Nat):DS (Y.set 12 (.dict (wD nums a2 turned))) tb L nums a2 turned rs1 rs2 rs4 o xs:=
 ⟨D.W.setW a2 turned,cH D.ho (by have:=D.l0;lia),D.l0,D.l1,D.l2,D.l4⟩
theorem DS.grow {k:Nat}(D:DS Y tb L nums at' turned rs1 rs2 rs4 o xs)(A:Tab k Y tb Y' tb'):DS Y' tb' L nums at' turned rs1 rs2 rs4 o xs:=
 ⟨D.W.grow A,A.fr.get D.ho (by have:=D.l0;unfold T12;lia),D.l0,D.l1,D.l2,D.l4⟩
theorem WdS.new (W:WdS Y tb L nums at' turned rs1 rs2 rs4)(xs:List V):DS (Y++[.list xs]) tb L nums at' turned rs1 rs2 rs4 Y.length xs:=
 ⟨W.of Fr.app,k9,W.ln,W.tlt.1,W.tlt.2.1,W.tlt.2.2⟩
theorem bN3 {γ:Type}{enc:γ→V}{g:γ→V}{f:V→M (Option V)}{w:M Unit}{Y:H}(hw:w Y=some ((),Y)):∀(l:List γ),(∀x∈l,f (enc x) Y=some (some (g x),Y))→bK w f (l.map enc) Y=some (l.map g,Y):=by
 intro ll
 induction ll with
 | nil=>
  intro _;show aB w (λ_=>ret []) Y=_;rw[st hw];rfl
 | cons x l ih=>
  intro h;show aB w (λ_=>aB (f (enc x)) λy=>aB (bK w f (l.map enc)) λys=>ret (wZ y ys)) Y=_;rw[st hw,st (h x zS),st (ih λy hy=>h y (zC _ hy))];rfl
def gP (x:At×Bool):V:=.tup [cO x.1,.int (u1 x.2)]
theorem add_int {a b:Int}:i8 .Add (.int a) (.int b) Y=some (.int (a+b),Y):=rfl
theorem bQ6 (as:List At):jG "len" [a9 as] Y=some (.int as.length,Y):=by
 rw[show a9 as=.lst (as.map cO)from rfl,kW];simp
theorem le_int {a b:Int}:aK .LtE (.int a) (.int b) Y=some (decide (a≤b),Y):=rfl
theorem bs0 {xs:List V}(h:Y[o]?=some (.list xs)):bD call .li (S "reverse") (.ref o) [] Y=some (.none,Y.set o (.list xs.reverse)):=by
 show aA2 (S "reverse") o Y=_;show aB (rdL o) (λxs=>if S "reverse"=S "reverse" then aB (xJ o (.list xs.reverse)) λ_=>ret V.none else if S "reverse"=S "pop" then aB (bL xs.getLast?) λv=>aB (xJ o (.list xs.dropLast)) λ_=>ret v else fail) Y=_;rw[st (o0 h),if_pos rfl];rfl
theorem bs9 (i:Nat):(gE i).length≤2∧gE i≠[]:=by
 unfold gE
 repeat' split
 all_goals simp
theorem bm6 (n:Nat){rows:List (At×Bool)}{ρ:LE}{x0:V}(D:DS Y tb L nums at' turned rs1 rs2 rs4 o (rows.map gP))(h5:rows.length≤5)(h1:ρ (S "w")=some (.ref 12))(h2:ρ (S "rows")=some (.ref o)) :
  ∃ρ' Y' rows',DS Y' tb L nums (at'+1) turned rs1 rs2 rs4 o (rows'.map gP)∧rows'.length≤5∧rows'≠[]∧ρ' (S "w")=some (.ref 12)∧ρ' (S "rows")=some (.ref o)∧∀k,fI (aD (n+1)) x0 ρ k Y=k ρ' Y':=by
 obtain⟨x,hx,e⟩:=aZ6 n D.W 44 (by decide);have D1:=D.take (at'+1);have hi:x / 2 < 22:=by lia
 have hp:=bs9 (x / 2);have ep:=bU4 (Y:=Y.set 12 (.dict (wD nums (at'+1) turned))) n (x / 2) hi;have ed:((x:Int) / 2)=((x / 2:Nat):Int):=by lia
 have eT:nF (aD (n+1)) ρ (a9 (gE (x / 2))) (Y.set 12 (.dict (wD nums (at'+1) turned)))=some (decide (rows.length+(gE (x / 2)).length≤5),Y.set 12 (.dict (wD nums (at'+1) turned))):=by
  unfold nF;rw[h2,aF,st (len_list D1.ho),st (bQ6 _),st add_int,le_int];refine congrArg (λb=>some (b,Y.set 12 (.dict (wD nums (at'+1) turned)))) ?_;rw[Bool.eq_iff_iff,decide_eq_true_iff,decide_eq_true_iff];simp;lia
 have go:∀k,fI (aD (n+1)) x0 ρ k Y=(if decide (rows.length+(gE (x / 2)).length≤5)then(aB (bF (S "extend") (.ref o)) λm65=>aB (c8 (a9 (gE (x / 2)))) λxs66=>aB (bK (still xs66 (aP (a9 (gE (x / 2))))) (jQ (aD (n+1)) (.int x)) xs66) λys73=>
   cI (cG m65) (.lst ys73) λf74=>aB (bD (aD (n+1)) m65 (S "extend") (.ref o) [f74]) λv75=>k (upd (upd (upd ρ (S "go") x0) (S "x") (.int x)) (S "atoms") (a9 (gE (x / 2)))))
   else k (upd (upd (upd ρ (S "go") x0) (S "x") (.int x)) (S "atoms") (a9 (gE (x / 2))))) (Y.set 12 (.dict (wD nums (at'+1) turned))):=λk=>by
  unfold fI;rw[h1,aF,st D.W.wFrz,st e,st (bJ5 (by decide)),ed,st (aH _),st ep,st eT];unfold tV;rw[h2,aF]
 have k1:upd (upd (upd ρ (S "go") x0) (S "x") (.int x)) (S "atoms") (a9 (gE (x / 2))) (S "w")=some (.ref 12):=by rw[aI (by nofun),aI (by nofun),aI (by nofun)];exact h1
 have k2:upd (upd (upd ρ (S "go") x0) (S "x") (.int x)) (S "atoms") (a9 (gE (x / 2))) (S "rows")=some (.ref o):=by rw[aI (by nofun),aI (by nofun),aI (by nofun)];exact h2
 by_cases q:rows.length+(gE (x / 2)).length≤5
 ·have hc:=aC8 (enc:=cO) (g:=λa=>gP (a,decide (x < 38∧x % 2=1))) (f:=jQ (aD (n+1)) (.int x)) (Y:=Y.set 12 (.dict (wD nums (at'+1) turned))) (gE (x / 2)) (λa _=>by
   unfold jQ;rw[st (aP5 a),aC,st pJ];by_cases q2:(x:Int) < 38
   ·rw[if_pos (decide_eq_true q2),aC,st (aG6 (by decide)),cM,st (aH _)];have:((x:Int) % 2)=u1 (decide (x < 38∧x % 2=1)):=by
     have h38:x < 38:=by lia
     by_cases q3:x % 2=1
     ·simp[u1,h38,q3];lia
     ·simp[u1,q3];lia
    rw[this];rfl
   ·rw[if_neg (by simpa using q2),cM,st (aH _)];have h38:¬x < 38:=by lia
    have:(0:Int)=u1 (decide (x < 38∧x % 2=1)):=by simp[u1,h38]
    rw[this];rfl)
  refine⟨_,_,rows++(gE (x / 2)).map λa=>(a,decide (x < 38∧x % 2=1)),D1.set _,by simpa using q,?_,k1,k2,λk=>?_⟩
  ·have:=hp.2
   cases hpl:gE (x / 2)with
   | nil=>exact absurd hpl this
   | cons a l=>simp
  ·rw[go,if_pos (decide_eq_true q),st (dV D1.ho (by ext)),st (show c8 (a9 (gE (x / 2))) _=some ((gE (x / 2)).map cO,_)from rfl),st (show bK (still ((gE (x / 2)).map cO) (aP (a9 (gE (x / 2))))) _ _ _=_ from hc),jR,st (ao5 D1.ho (by simp;lia) (by simp;lia))];rw[List.map_append,List.map_map];rfl
 ·refine⟨_,_,rows,D1,h5,?_,k1,k2,λk=>?_⟩
  ·rintro rfl;simp at q;lia
  ·rw[go,if_neg (by simpa using q)]
abbrev ca6 (n:Nat)(Y:H)(tb:List Row)(L:Nat)(nums:List V)(at':Nat)(turned:Bool)(rs1 rs2 rs4:RS)(o:Nat)(ones:List OneD)(a:At)(f:Bool)(ρ ρ':LE)(Y':H)(tb':List Row)(od:OneD):Prop:=DS Y' tb' L nums at' turned rs1 rs2 rs4 o ((ones++[od]).map cJ)∧tb <+: tb'∧tb'.length≤tb.length+2∧oQ tb' od∧tb'[od.kind]?=some (.u (rY a f))∧(∀x,x≠S "atom"→x≠S "fresh"→x≠S "kind"→ρ' x=ρ x)∧Fr (λm=>m=1∨m=2∨m=o) Y Y'∧∀k,d7 (aD (n+3)) (gP (a,f)) ρ k Y=k ρ' Y'
theorem bi7 (n:Nat){ones:List OneD}{ρ:LE}{a:At}{f:Bool}(D:DS Y tb L nums at' turned rs1 rs2 rs4 o (ones.map cJ))(h1:ρ (S "w")=some (.ref 12))(h2:ρ (S "ones")=some (.ref o))(hl:tb.length < 80000)(hol:ones.length < 100) :
  ∃ρ' Y' tb' od,ca6 n Y tb L nums at' turned rs1 rs2 rs4 o ones a f ρ ρ' Y' tb' od:=by
 obtain⟨t1,tb1,Y1,e1,A1,g1⟩:=bf4 n D.W.r1.T (by lia) D.W.stat D.W.w a f;have D1:=D.grow A1;obtain⟨t2,tb2,Y2,e2,A2,g2⟩:=bf4 n D1.W.r1.T (by have:=A1.len;lia) D1.W.stat D1.W.w a false;have D2:=D1.grow A2;have et:=aI7 (Y:=Y2) (n+1) (.int t1) (.int t2) (dH .no) (.lst []) [a];refine⟨upd (upd (upd ρ (S "atom") (cO a)) (S "fresh") (.int (u1 f))) (S "kind") (.int t1),_,tb2,⟨t1,t2,.no,[a]⟩,D2.set _,A1.pre.trans A2.pre,by have:=A1.len;have:=A2.len;lia,.inl ⟨rfl,a,f,rfl,A2.at_ g1,g2⟩,A2.at_ g1,
  λx ha hf hk=>by rw[qG hk,qG hf,qG ha],((A1.fr.mono λm h=>?_).trans (A2.fr.mono λm h=>?_)).trans (Fr.set (.inr (.inr rfl))),λk=>?_⟩
 ·unfold T12 at h;lia
 ·unfold T12 at h;lia
 ·unfold d7;simp only[gP,uJ,pO,uV];rw[h1];unfold tX;rw[h2,aF,st D.W.wFrz,st (aP5 a),st (aH _),st e1,aF,st (dV D1.ho (by ext)),st (aH _),aF,st D1.W.wFrz,st (aP5 a),st (show aD (n+3) (.fn 140 0) [.ref 12,cO a,.int 0] Y1=_ from e2),st (aH _),st (aP5 a),st (show aD (n+3) (.fn 142 0) [.int t1,.int t2,.str (S ""),.lst [cO a],.lst []] Y2=_ from et),jR,st (lZ D2.ho (by simp;lia))];rw[List.map_append];rfl
end
section
variable {Y Y':H}{tb tb':List Row}{n r L o c:Nat}{rs rs1 rs2 rs4:RS}{call:CT}{nums:List V}{at':Nat}{turned:Bool}{s t:Tm}{xs ys:List V}
def ar0 (Y:H)(tb:List Row)(L:Nat)(nums:List V)(turned:Bool)(m:M V):Prop:=∃Y' tb' at2 tm,m Y=some (b0 tm,Y')∧Wd Y' tb' L nums at2 turned∧tb <+: tb'∧tb'.length≤tb.length+30∧TmOk tb' tm
abbrev ca4 (Y:H)(tb:List Row)(L:Nat)(nums:List V)(at':Nat)(turned:Bool)(rs1 rs2 rs4:RS)(o:Nat)(rows:List (At×Bool))(l:List (At×Bool))(ρ:LE)(Y1:H)(tb1:List Row)(ones:List OneD)(done:List (At×Bool)):Prop:=DS Y1 tb1 L nums at' turned rs1 rs2 rs4 Y.length (ones.map cJ)∧Y1[o]?=some (.list (rows.map gP))∧tb <+: tb1∧tb1.length+2 * l.length≤tb.length+2 * rows.length∧rows=done++l∧Rows tb1 (ones.map λx=>x.kind) (fK done)∧(∀x∈ones,oQ tb1 x)∧ones.length=done.length∧ρ (S "w")=some (.ref 12)∧ρ (S "rows")=some (.ref o)∧ρ (S "ones")=some (.ref Y.length)
theorem aC2 (n:Nat){rows:List (At×Bool)}{ρ:LE}(D:DS Y tb L nums at' turned rs1 rs2 rs4 o (rows.map gP))(h5:rows.length≤5)(hne:rows≠[])(h1:ρ (S "w")=some (.ref 12))(h2:ρ (S "rows")=some (.ref o))(hl:tb.length < 70000) :
  ar0 Y tb L nums turned (aB (bN (.list [])) λv83=>aQ (ρ (S "rows")) λr84=>aB (bU r84) λxs85=>b9 (still xs85 (aP r84)) (d7 (aD (n+4))) xs85 (upd ρ (S "ones") v83) (jP (aD (n+4)))):=by
 have D0:DS (Y++[.list []]) tb L nums at' turned rs1 rs2 rs4 o (rows.map gP):=⟨D.W.of Fr.app,(Fr.app (P:=No)).get D.ho id,D.l0,D.l1,D.l2,D.l4⟩;have DN:=D.W.new [];have hoN:o < Y.length:=lV D.ho;obtain⟨ρ',Y1,⟨tb1,ones,done,Dn,Do,hp1,hl1,hdn,hrows,hones,hlen,k1,k2,k3⟩,e⟩:=aH8 (enc:=gP) (w:=still (rows.map gP) (some o)) (f:=d7 (aD (n+4)))
  (λl ρ Y1=>∃tb1 ones done,ca4 Y tb L nums at' turned rs1 rs2 rs4 o rows l ρ Y1 tb1 ones done)
  (λl ρ Y1 hI=>by
   obtain⟨_,_,_,_,ho,_⟩:=hI;exact lC ho)
  (λx l ρ Y1 hI=>by
   obtain⟨tb1,ones,done,Dn,Do,hp1,hl1,hdn,hrows,hones,hlen,k1,k2,k3⟩:=hI;obtain⟨a,f⟩:=x;have hdl:done.length < 5:=by
    have:rows.length=done.length+(l.length+1):=by rw[hdn];simp
    lia
   obtain⟨ρ2,Y2,tb2,od,D2,p2,l2,od2,kd2,ρ2e,F2,e2⟩:=bi7 (n+1) (a:=a) (f:=f) Dn k1 k3 (by lia) (by lia);refine⟨ρ2,Y2,⟨tb2,ones++[od],done++[(a,f)],D2,F2.get Do (by have:=D.l0;lia),hp1.trans p2,by simp at hl1;lia,by rw[hdn];simp,?_,λx hx=>?_,by simp[hlen],?_,?_,?_⟩,e2⟩
   ·rw[List.map_append];unfold fK at hrows ⊢;rw[List.map_append];show List.map _ _=_;rw[List.map_append,List.map_append];have h1:(ones.map λx=>x.kind).map (λp=>tb2[p]?)=(done.map λx=>rY x.1 x.2).map λu=>some (Row.u u):=hrows.pre p2;rw[h1];simp[kd2]
   ·rcases List.mem_append.mp hx with h | h
    ·exact(hones x h).pre p2
    ·simp at h;subst h;exact od2
   ·rw[ρ2e _ (by nofun) (by nofun) (by nofun)];exact k1
   ·rw[ρ2e _ (by nofun) (by nofun) (by nofun)];exact k2
   ·rw[ρ2e _ (by nofun) (by nofun) (by nofun)];exact k3) rows (upd ρ (S "ones") (.ref Y.length)) (Y++[.list []])
  ⟨tb,[],[],DN,D0.ho,List.prefix_rfl,by lia,rfl,(show Rows tb [] (fK [])from rfl),by simp,rfl,by rw[aI (by nofun)];exact h1,by rw[aI (by nofun)];exact h2,bE⟩
 rw[List.append_nil]at hdn;subst hdn;simp only[List.length_nil]at hl1;have T1:=Dn.W.r1.T;obtain⟨m,tb2,Y2,eU,AU,mU,_⟩:=bf3 (n+1) T1 hrows am8 (by rw[List.length_map];lia) (by lia);obtain⟨ks,hT,hU,hkne,hk10,hkat⟩:=bj5 T1.ok AU.at'.ok AU.pre hrows mU hne h5;obtain⟨m',K',ks',R,tb3,Y3,eR,AR,hT',_,hR,hK',_⟩:=aD1 n AU.at' hT (by have:=AU.len;lia);have hKl:=hT.five;have D3:=(Dn.grow AU).grow AR;have Do3:Y3[o]?=some (.list (rows.map gP)):=AR.fr.get (AU.fr.get Do (by have:=D.l0;unfold T12;lia)) (by have:=D.l0;unfold T12;lia);have hT3:=hT.pre AR.pre;have hFull:aq9 tb3 (cF tb1 (ones.map λx=>x.kind)) ks:=by
  refine⟨R,hR,λq2 q3=>?_⟩;have:=hT'.made;rw[hK' q2]at this;rcases this with⟨a,_⟩ | a | ⟨a,b⟩
  ·rw[a]at q3;simp at q3
  ·rw[a]at q3;simp at q3
  ·exact zE b
 have Dfin:WdS (Y3.set Y.length .gone) tb3 L nums at' turned rs1 rs2 rs4:=D3.W.setO D3.l0 D3.l1 D3.l2 D3.l4 _;have Do4:(Y3.set Y.length .gone)[o]?=some (.list (rows.map gP)):=cH Do3 (by lia);have eTm:=aI7 (Y:=Y3.set Y.length .gone) (n+2) (.int m) (.int m') (dH .no) (.lst (ones.map cJ)) (rows.map (·.1));refine⟨Y3.set Y.length .gone,tb3,at',⟨m,m',.no,rows.map (·.1),ones⟩,?_,⟨rs1,rs2,rs4,Dfin⟩,hp1.trans (AU.pre.trans AR.pre),by have:=AU.len;have:=AR.len;lia,
  ⟨⟨.term ks,⟨_,hT3,hFull⟩,rfl,hU,hkne,hk10,hkat⟩,by simp;lia,by show ones.length≤10;lia,λx hx=>((hones x hx).pre AU.pre).pre AR.pre⟩⟩
 rw[st gS,h2,aF,st (n9 D0.ho),show ∀k,b9 (still (rows.map gP) (aP (.ref o))) (d7 (aD (n+4))) (rows.map gP) _ k _=k ρ' Y1 from e];unfold jP;have c1:=bN3 (enc:=cJ) (g:=λx=>V.int x.kind) (f:=nG (aD (n+4))) (w:=still (ones.map cJ) (some Y.length)) (lC Dn.ho) ones (λx _=>by
  unfold nG;rw[st (show aJ (.str (S "kind")) (cJ x) Y1=some (.int x.kind,Y1)from aI2)];rfl)
 have c2:=bN3 (enc:=gP) (g:=λx=>cO x.1) (f:=tZ (aD (n+4))) (w:=still (rows.map gP) (some o)) (lC Do3) rows (λx _=>rfl);have hids:ones.map (λx=>V.int x.kind)=bQ (ones.map λx=>x.kind):=by unfold bQ;rw[List.map_map];rfl
 have hAs:rows.map (λx=>cO x.1)=(rows.map (·.1)).map cO:=by rw[List.map_map];rfl
 rw[hids]at c1;rw[hAs]at c2;rw[k1];unfold tW;rw[k2,k3,aF,st Dn.W.wTab,st T1.frz,aF,st (show c8 (.ref Y.length) Y1=some (ones.map cJ,Y1)from n9 Dn.ho),st (show bK (still (ones.map cJ) (aP (.ref Y.length))) _ _ Y1=_ from c1),st eU,st (aH _),aF,st (Dn.grow AU).W.wTab,st AU.at'.frz,st (aH _),st eR,st (aH _),aF,
  st (show c8 (.ref o) Y3=some (rows.map gP,Y3)from n9 Do3),st (show bK (still (rows.map gP) (aP (.ref o))) _ _ Y3=_ from c2),aF,st (ao0 D3.ho),st (show aD (n+4) (.fn 142 0) [.int m,.int m',.str (S ""),.lst ((rows.map (·.1)).map cO),.lst (ones.map cJ)] _=_ from eTm)]
 rfl
theorem bY8:@tY=@d7:=rfl
theorem bS9:@rD=@jP:=rfl
theorem by3 (n:Nat){rows:List (At×Bool)}{ρ:LE}(D:DS Y tb L nums at' turned rs1 rs2 rs4 o (rows.map gP))(h5:rows.length≤5)(hne:rows≠[])(h1:ρ (S "w")=some (.ref 12))(h2:ρ (S "rows")=some (.ref o))(hl:tb.length < 70000) :
  ar0 Y tb L nums turned (iN (aD (n+4)) ρ):=by
 have eT:nE (aD (n+4)) ρ Y=some (turned,Y):=by
  unfold nE;rw[h1,aF,st D.W.wTurned,bJ]
 cases turned with
 | true=>
  have D2:=D.set (rows.reverse.map gP);obtain⟨Y',tb',at2,tm,e,rest⟩:=aC2 n D2 (by simpa using h5) (by simpa using hne) h1 h2 hl;refine⟨Y',tb',at2,tm,?_,rest⟩;unfold iN;rw[st eT,if_pos rfl,h2,aF,st (dV D.ho (by ext)),st (bs0 D.ho),←List.map_reverse];exact e
 | false=>
  obtain⟨Y',tb',at2,tm,e,rest⟩:=aC2 n D h5 hne h1 h2 hl;refine⟨Y',tb',at2,tm,?_,rest⟩;unfold iN;rw[st eT,if_neg (by simp)];unfold tU;rw[bY8,bS9];exact e
def bM6:List Int:=[1,2,2,3,4,5,3,2]
theorem bW0 {x:Nat}(h:7 < x)(h2:x < 12):∃(j:Nat) (tp:Tp),tp≠.no∧first[j]?=some (.u (uL tp))∧∀Y,aJ (.int ((x:Int) - 8)) (.tup [.tup [.int 0,.str (S "any")],.tup [.int 1,.str (S "unknown")],.tup [.int 2,.str (S "never")],.tup [.int 13,.str (S "error")]]) Y=some (.tup [.int j,dH tp],Y):=by
 have:x=8∨x=9∨x=10∨x=11:=by lia
 rcases this with rfl | rfl | rfl | rfl
 ·exact⟨0,.any,by decide,rfl,λ_=>rfl⟩
 ·exact⟨1,.unk,by decide,rfl,λ_=>rfl⟩
 ·exact⟨2,.nev,by decide,rfl,λ_=>rfl⟩
 ·exact⟨13,.err,by decide,rfl,λ_=>rfl⟩
theorem bS0 {x:Nat}(h:x < 8):∃c:Nat,bM6[x]?=some (c:Int)∧1≤c∧c≤5:=by
 have:x=0∨x=1∨x=2∨x=3∨x=4∨x=5∨x=6∨x=7:=by lia
 rcases this with rfl | rfl | rfl | rfl | rfl | rfl | rfl | rfl
 ·exact⟨1,rfl,by decide⟩
 ·exact⟨2,rfl,by decide⟩
 ·exact⟨2,rfl,by decide⟩
 ·exact⟨3,rfl,by decide⟩
 ·exact⟨4,rfl,by decide⟩
 ·exact⟨5,rfl,by decide⟩
 ·exact⟨3,rfl,by decide⟩
 ·exact⟨2,rfl,by decide⟩
theorem bA6 (n:Nat)(W:Wd Y tb L nums at' turned)(hl:tb.length < 70000):ar0 Y tb L nums turned (aD (n+5) (.fn 143 0) [.ref 12]):=by
 obtain⟨rs1,rs2,rs4,W⟩:=W;obtain⟨x,hx,e⟩:=aZ6 (n+3) W 12 (by decide);have W1:=W.setW (at'+1) turned;generalize hY:Y.set 12 (.dict (wD nums (at'+1) turned))=Y1 at *;by_cases q:(x:Int) > 7
 ·obtain⟨j,tp,htp,hj,hi⟩:=bW0 (Int.ofNat_lt.mp q) (Int.ofNat_lt.mp hx);have hr:=bG W1.r1.T.ok hj;have ft:aA (dH tp) Y1=some (dH tp,Y1):=by cases tp<;>rfl
  refine⟨Y1,tb,at'+1,⟨j,j,tp,[],[⟨j,j,tp,[]⟩]⟩,?_,⟨rs1,rs2,rs4,W1⟩,List.prefix_rfl,Nat.le_add_right _ _,⟨⟨.top (uL tp),⟨hr,by cases tp<;>first | exact absurd rfl htp | rfl⟩,htp,rfl⟩,Nat.zero_le _,Nat.le_add_left _ _,λo hm=>List.eq_of_mem_singleton hm▸.inr ⟨htp,rfl,hr,rfl⟩⟩⟩;rw[uB];unfold uS;rw[st W.wFrz,st e,st gt_int,if_pos (decide_eq_true q),st (show i8 .Sub (.int x) (.int 8) Y1=some (.int ((x:Int) - 8),Y1)from rfl),st (hi Y1)];simp only[uJ,pO,uV];rw[st (aH _),st (aH _),st ft,st (aH _),st (aH _),st ft,st (show aD (n+4) (.fn 142 0) [.int j,.int j,dH tp,.lst [],.lst []] Y1=_ from aI7 (n+2) (.int j) (.int j) (dH tp) (.lst []) []),st (show aA (d9 _ _ _ _ _ _) Y1=_ from bZ4),
   st (show aD (n+4) (.fn 142 0) [.int j,.int j,dH tp,.lst [],_] Y1=_ from aI7 (n+2) (.int j) (.int j) (dH tp) _ [])]
  rfl
 ·obtain⟨c,hc⟩:=bS0 (Nat.lt_succ_of_le (Nat.not_lt.mp λh=>q (Int.ofNat_lt.mpr h)));have D0:=W1.new [];have eR:tyV "range" [.int (c:Int)] (Y1++[.list []])=some (.rng c,Y1++[.list []]):=by
   show aU6 (.int (c:Int)) _=_;show(aB (dD (decide (0≤(c:Int))&&decide ((c:Int) < 1000))) λ_=>ret (V.rng c)) _=_;rw[show(decide (0≤(c:Int))&&decide ((c:Int) < 1000))=true by simp;lia];rfl
  have eO:bU (.rng (c:Int)) (Y1++[.list []])=some ((List.range c).map λ(i:Nat)=>V.int i,Y1++[.list []]):=rfl;obtain⟨ρ',Y2,⟨at2,rows,D2,h5,hne,k1,k2⟩,e2⟩:=aH8 (enc:=λ(i:Nat)=>V.int i) (w:=ret ()) (f:=fI (aD (n+4)))
   (λl ρ Y2=>∃at2 rows,DS Y2 tb L nums at2 turned rs1 rs2 rs4 Y1.length (rows.map gP)∧rows.length≤5∧(l.length < c→rows≠[])∧ρ (S "w")=some (.ref 12)∧ρ (S "rows")=some (.ref Y1.length)) (λ_ _ _ _=>rfl)
   (λi l ρ Y2 hI=>by
    obtain⟨at2,rows,D2,h5,hne,k1,k2⟩:=hI;obtain⟨ρ',Y',rows',D',h5',hne',g1,g2,e'⟩:=bm6 (n+3) (x0:=.int i) D2 h5 k1 k2;exact⟨ρ',Y',⟨at2+1,rows',D',h5',λ_=>hne',g1,g2⟩,e'⟩) (List.range c) (upd (upd (upd e0 (S "w") (.ref 12)) (S "head") (.int x)) (S "rows") (.ref Y1.length)) (Y1++[.list []])
   ⟨at'+1,[],D0,by simp,λh=>by simp at h,by rw[aI (by nofun),aI (by nofun),bE],bE⟩
  obtain⟨Y3,tb3,at3,tm,e3,rest⟩:=by3 n D2 h5 (hne hc.2.1) k1 k2 hl;refine⟨Y3,tb3,at3,tm,?_,rest⟩;rw[uB];unfold uS;rw[st W.wFrz,st e,st gt_int,if_neg (by simpa using q),st gS,st (show aJ (.int x) (.tup [.int 1,.int 2,.int 2,.int 3,.int 4,.int 5,.int 3,.int 2]) _=_ from aB0 (l:=bM6) hc.1),st eR,st eO];rw[show ∀k,b9 (still ((List.range c).map λ(i:Nat)=>V.int i) (aP (.rng (c:Int)))) (fI (aD (n+4))) ((List.range c).map λ(i:Nat)=>V.int i) _ k _=_ from e2];exact e3
end
def hp9:H:=[.inst 58 bE1,.list (first.map cB),.dict (nK first),.list [.none],.list [],.list [],.list [],.dict [],.dict []]
def bR9:H:=hp9++[.inst 90 bd8]
def bI0:H:=bR9++[.dict []]
def bR8:H:=bI0++[.dict []]
def bY1 (xs:List V):H:=bR8++[.dict (wD xs 0 false)]
def bM1:List (V×V):=[(.int 1,.ref 13),(.int 2,.ref 21),(.int 4,.ref 29)]
def bY0 (xs:List V):H:=bI0++[.dict bM1,.dict (wD xs 0 false)]++gH 13 1++gH 21 2++gH 29 4
def an6 (xs:List V):H:=[.inst 58 bE1,.list (first.map cB),.dict (nK first),.list [.none,.ref 37,.ref 40,.ref 43],.list [],.list [],.list [],.dict [],.dict [],.inst 90 bd8,
 .dict [(.str (S "E"),.int 1),(.str (S "T"),.int 2),(.str (S "G"),.int 3)],.dict bM1,.dict (wD xs 0 false)]++gH 13 1++gH 21 2++gH 29 4 ++
 [.inst 59 (ap2 1 "E" 38),.list [jV "A" (.int 1),jV "B" (.int 2),jV "C" (.int 1)],.list [],.inst 59 (ap2 2 "T" 41),.list [jV "P" (.str (S "a")),jV "Q" (.str (S "b"))],.list [],.inst 59 (ap2 3 "G" 44),.list [jV "X" (.int 1)],.list []]
theorem e58:jY (aD 23) 58 [] []=some (.ref 0,hp9):=by ext
theorem e90:jY (aD 23) 90 [.ref 0] hp9=some (.ref 9,bR9):=by ext
def bW8 (x0 xs:List V):LE:=upd (upd (upd (upd (upd e0 (S "script") (.lst x0)) (S "script") (.lst xs)) (S "tab") (.ref 0)) (S "host") (.ref 9)) (S "w") (.ref 12)
def bP5 (x0 xs:List V):LE:=upd (upd (upd (bW8 x0 xs) (S "mode") (.int 1)) (S "mode") (.int 2)) (S "mode") (.int 4)
theorem bY9 (x0 xs:List V)(k:LE→M V):b9 (ret ()) (wE (aD 23)) [.int 1,.int 2,.int 4] (bW8 x0 xs) k (bY1 xs)=k (bP5 x0 xs) (bY0 xs):=by ext
def brE:V:=.tup [.str (S "E"),.tup [jV "A" (.int 1),jV "B" (.int 2),jV "C" (.int 1)]]
def brT:V:=.tup [.str (S "T"),.tup [jV "P" (.str (S "a")),jV "Q" (.str (S "b"))]]
def brG:V:=.tup [.str (S "G"),.tup [jV "X" (.int 1)]]
def br9 (x0 xs:List V):LE:=
 upd (upd (upd (upd (upd (upd (upd (upd (upd (bP5 x0 xs) (S "brand") (.str (S "E"))) (S "members") (.tup [jV "A" (.int 1),jV "B" (.int 2),jV "C" (.int 1)])) (S "decl") (.ref 37))
  (S "brand") (.str (S "T"))) (S "members") (.tup [jV "P" (.str (S "a")),jV "Q" (.str (S "b"))])) (S "decl") (.ref 40)) (S "brand") (.str (S "G"))) (S "members") (.tup [jV "X" (.int 1)])) (S "decl") (.ref 43)
theorem bZ0 (x0 xs:List V)(k:LE→M V):b9 (ret ()) (wC (aD 23)) [brE,brT,brG] (bP5 x0 xs) k (bY0 xs)=k (br9 x0 xs) (an6 xs):=by ext
theorem bk0 (x0:List V):aD 24 (.fn 154 0) [.lst x0] []=pC (aD 23) (br9 x0 (x0.take 63)) (an6 (x0.take 63)):=by
 rw[show aD 24 (.fn 154 0) [.lst x0]=_ from aF8 23 (.lst x0)];unfold az8;rw[show cA (.int 63)=some 63 from rfl,aF,st (show iA 63 (.lst x0) ([]:H)=some (.lst (x0.take 63),[])from rfl),st e58,st (show aA (.ref 0) hp9=some (.ref 0,hp9)from rfl),st e90,st (show bN (.dict []) bR9=some (.ref 10,bI0)from rfl),st (show bN (.dict []) bI0=some (.ref 11,bR8)from rfl),
  st (show bN (.dict [((.str (S "nums")),.lst (x0.take 63)),((.str (S "next")),(.int 0)),((.str (S "tab")),.ref 0),((.str (S "host")),.ref 9),((.str (S "dids")),.ref 10),((.str (S "rels")),.ref 11),((.str (S "turned")),(.bool false))]) bR8=some (.ref 12,bY1 (x0.take 63))from rfl),
  st (eQ _)]
 refine(bY9 x0 (x0.take 63) _).trans ?_;unfold tT;rw[st (eQ _)];exact bZ0 x0 (x0.take 63) _
theorem ae7:TabAt (an6 xs) first:=⟨⟨List.prefix_rfl,by decide⟩,rfl,rfl,rfl⟩
theorem aE3 (xs:List V):RW (an6 xs) first 13 (xK 1 13)∧RW (an6 xs) first 21 (xK 2 21)∧RW (an6 xs) first 29 (xK 4 29):=
 ⟨⟨ae7,rfl,rfl,rfl,rfl,rfl,rfl,rfl,by decide,by decide,by decide,List.nodup_nil,List.nodup_nil⟩,⟨ae7,rfl,rfl,rfl,rfl,rfl,rfl,rfl,by decide,by decide,by decide,List.nodup_nil,List.nodup_nil⟩,
  ⟨ae7,rfl,rfl,rfl,rfl,rfl,rfl,rfl,by decide,by decide,by decide,List.nodup_nil,List.nodup_nil⟩⟩
theorem aE4 (m:Int)(r:Nat)(hm:m≠3):RI first (xK m r):=⟨λk b h=>by simp[xK]at h,λk h=>by simp[xK]at h,hm⟩
theorem bE4 (xs:List V)(hx:∀v∈xs,∃i,v=.int i):WdS (an6 xs) first 0 xs 0 false (xK 1 13) (xK 2 21) (xK 4 29):=
 ⟨(aE3 xs).1,(aE3 xs).2.1,(aE3 xs).2.2,aE4 _ _ (by decide),aE4 _ _ (by decide),aE4 _ _ (by decide),rfl,rfl,rfl,⟨rfl,rfl,zR,zR,zR⟩,⟨rfl,rfl,zR,zR,zR⟩,⟨rfl,rfl,zR,zR,zR⟩,
  by decide,by decide,by decide,.inl rfl,.inl rfl,.inl rfl,rfl,hx,rfl,⟨rfl,rfl,rfl,rfl,rfl,rfl,rfl,rfl⟩,by show 46≤46;lia⟩
section
variable {Y Y':H}{tb tb':List Row}{L:Nat}{nums:List V}{at':Nat}{turned:Bool}{s t:Tm}{xs:List V}
theorem Wd.of (W:Wd Y tb L nums at' turned)(F:Fr No Y Y'):Wd Y' tb L nums at' turned:=by
 obtain⟨a,b,c,W⟩:=W;exact⟨a,b,c,W.of F⟩
theorem Wd.mono {L':Nat}(W:Wd Y tb L nums at' turned)(h:L≤L'):Wd Y tb L' nums at' turned:=by
 obtain⟨a,b,c,W⟩:=W;exact⟨a,b,c,W.mono h⟩
theorem az6 (W:Wd Y tb L nums at' turned)(hL:L≤7000)(htb:tb.length < 80000)(hs:TmOk tb s)(ht:TmOk tb t){ρ:LE}(h1:ρ (S "w")=some (.ref 12)) :
  ∃Y',Wd Y' tb (L+400) nums at' turned∧∀k,pD (aD 23) (.tup [b0 s,b0 t]) ρ k Y=k (upd (upd ρ (S "one") (b0 s)) (S "other") (b0 t)) Y':=by
 obtain⟨Y1,e1,W1⟩:=bU5 3 W hL htb hs ht;obtain⟨Y2,e2,F2⟩:=aR7 18 W1 hs ht;refine⟨Y2,W1.of F2,λk=>?_⟩;have eT:pB (aD 23) ρ (b0 s) (b0 t) Y=some (false,Y2):=by
  obtain⟨a,b,c,W0⟩:=W;obtain⟨a1,b1,c1,W1'⟩:=W1;unfold pB;rw[h1,aC,i0,aC,st W0.wFrz,aC,st (dS s),aC,st (dS t),aC,st (show aD 23 (.fn 152 0) [.ref 12,b0 s,b0 t] Y=_ from e1),st (bJ _),cM,show(!true)=false from rfl,gM,aC,i0,aC,st W1'.wFrz,aC,st (dS s),aC,st (dS t),aC,
   st (show aD 23 (.fn 153 0) [.ref 12,b0 s,b0 t] Y1=_ from e2),st (bJ _)]
  rfl
 unfold pD;simp only[uJ,pO,uV];rw[st eT];rfl
theorem bu5 {ρ:LE}{i:V}{sp:Int}(W:Wd Y tb L nums at' turned)(hL:L≤6000)(htb:tb.length < 60000)(h1:ρ (S "w")=some (.ref 12))(h2:ρ (S "script")=some (.lst nums))(h3:ρ (S "spent")=some (.int sp)) :
  (∃ρ' Y' tb' at2 sp',(Wd Y' tb' (L+800) nums at2 turned∧tb'.length≤tb.length+60∧ρ' (S "w")=some (.ref 12)∧ρ' (S "script")=some (.lst nums)∧ρ' (S "spent")=some (.int sp'))∧∀k,e9 (aD 23) i ρ k Y=k ρ' Y')∨∃Y',∀k,e9 (aD 23) i ρ k Y=some (.bool true,Y'):=by
 obtain⟨Y1,tb1,at1,s,e1,W1,p1,l1,hs1⟩:=bA6 18 W (by lia);obtain⟨Y2,tb2,at2,t,e2,W2,p2,l2,ht2⟩:=bA6 18 W1 (by lia);have hs2:TmOk tb2 s:=by
  obtain⟨_,_,_,a⟩:=W1;obtain⟨_,_,_,b⟩:=W2;exact hs1.pre a.r1.T.ok b.r1.T.ok p2
 have g1:upd (upd (upd ρ (S "go") i) (S "s") (b0 s)) (S "t") (b0 t) (S "w")=some (.ref 12):=by rw[aI (by nofun),aI (by nofun),aI (by nofun)];exact h1
 obtain⟨Y3,W3,e3⟩:=az6 W2 (by lia) (by lia) hs2 ht2 g1;obtain⟨Y4,W4,e4⟩:=az6 (ρ:=upd (upd (upd (upd (upd ρ (S "go") i) (S "s") (b0 s)) (S "t") (b0 t)) (S "one") (b0 s)) (S "other") (b0 t)) W3 (by lia) (by lia) ht2 hs2 (by rw[aI (by nofun),aI (by nofun)];exact g1);have E:∀x:String,decide (S x=S "go")=false→decide (S x=S "s")=false→decide (S x=S "t")=false→decide (S x=S "one")=false→decide (S x=S "other")=false→
   (upd (upd (upd (upd (upd (upd (upd ρ (S "go") i) (S "s") (b0 s)) (S "t") (b0 t)) (S "one") (b0 s)) (S "other") (b0 t)) (S "one") (b0 t)) (S "other") (b0 s)) (S x)=ρ (S x):=λx a b c d e=>by
  rw[aI e,aI d,aI e,aI d,aI c,aI b,aI a]
 have Es:(upd (upd (upd (upd (upd (upd (upd ρ (S "go") i) (S "s") (b0 s)) (S "t") (b0 t)) (S "one") (b0 s)) (S "other") (b0 t)) (S "one") (b0 t)) (S "other") (b0 s)) (S "s")=some (b0 s):=by
  rw[aI (by nofun),aI (by nofun),aI (by nofun),aI (by nofun),aI (by nofun),bE]
 have Et:(upd (upd (upd (upd (upd (upd (upd ρ (S "go") i) (S "s") (b0 s)) (S "t") (b0 t)) (S "one") (b0 s)) (S "other") (b0 t)) (S "one") (b0 t)) (S "other") (b0 s)) (S "t")=some (b0 t):=by
  rw[aI (by nofun),aI (by nofun),aI (by nofun),aI (by nofun),bE]
 have Ew:=(E "w" (by nofun) (by nofun) (by nofun) (by nofun) (by nofun)).trans h1;have Ec:=(E "script" (by nofun) (by nofun) (by nofun) (by nofun) (by nofun)).trans h2;have Ep:=(E "spent" (by nofun) (by nofun) (by nofun) (by nofun) (by nofun)).trans h3;generalize hρ:upd (upd (upd (upd (upd (upd (upd ρ (S "go") i) (S "s") (b0 s)) (S "t") (b0 t)) (S "one") (b0 s)) (S "other") (b0 t)) (S "one") (b0 t)) (S "other") (b0 s)=ρ2 at *;have go:∀k,e9 (aD 23) i ρ k Y=kV (aD 23) k ρ2 Y4:=λk=>by
  unfold e9;obtain⟨_,_,_,w0⟩:=W;obtain⟨_,_,_,w1⟩:=W1;rw[h1,aF,st w0.wFrz,st (show aD 23 (.fn 143 0) [.ref 12] Y=_ from e1),aF,st w1.wFrz,st (show aD 23 (.fn 143 0) [.ref 12] Y1=_ from e2),st (dS s),st (dS t),st (dS t),st (dS s),st (eQ _)];exact bS5.trans ((e3 _).trans (e4 _))
 have ls:=hs2.lo;have lt:=ht2.lo;have eM:i8 .Mult (.int ((s.ones.map cJ).length:Nat)) (.int ((t.ones.map cJ).length:Nat)) Y4=some (.int (((s.ones.map cJ).length:Int) * ((t.ones.map cJ).length:Int)),Y4):=by
  show(if((s.ones.map cJ).length:Int).natAbs < 1000∧((t.ones.map cJ).length:Int).natAbs < 1000 then ret (V.int ((s.ones.map cJ).length * (t.ones.map cJ).length))else fail) Y4=_;rw[if_pos (by simp;lia)];rfl
 have go2:∃b sp',∀k,kV (aD 23) k ρ2 Y4=(if b=true then aA (.bool true)else k (upd ρ2 (S "spent") (.int sp'))) Y4:=by
  obtain⟨_,_,_,w4⟩:=W4;refine⟨decide (sp+(1+((s.ones.map cJ).length:Int) * ((t.ones.map cJ).length:Int)) > 9)||decide ((at2:Int) ≥ nums.length),sp+(1+((s.ones.map cJ).length:Int) * ((t.ones.map cJ).length:Int)),λk=>?_⟩;unfold kV;have eT:pA (aD 23) (.int (sp+(1+((s.ones.map cJ).length:Int) * ((t.ones.map cJ).length:Int)))) ρ2 Y4=some (decide (sp+(1+((s.ones.map cJ).length:Int) * ((t.ones.map cJ).length:Int)) > 9)||decide ((at2:Int) ≥ nums.length),Y4):=by
   unfold pA;refine oX gt_int λ_=>l9 ?_;rw[Ew,Ec,aF,st w4.wNext,aF,st (kW _),ge_int]
  unfold wB;rw[Ep,Es,Et,aF,aF,st (sN s),st (kW _),aF,st (sN t),st (kW _),st eM,st add_int,st (show jH .Add (.int sp) (.int (1+((s.ones.map cJ).length:Int) * ((t.ones.map cJ).length:Int))) Y4=some (.int (sp+(1+((s.ones.map cJ).length:Int) * ((t.ones.map cJ).length:Int))),Y4)from rfl),st eT]
 obtain⟨b,sp',go2⟩:=go2;cases b with
 | true=>exact .inr ⟨Y4,λk=>by rw[go,go2,if_pos rfl];rfl⟩
 | false=>
  refine .inl ⟨upd ρ2 (S "spent") (.int sp'),Y4,tb2,at2,sp',⟨W4.mono (by lia),by lia,?_,?_,bE⟩,λk=>by rw[go,go2,if_neg (by simp)]⟩
  ·rw[aI (by nofun)];exact Ew
  ·rw[aI (by nofun)];exact Ec
theorem plain_law (ns:List Int):∃Y',aD 24 (.fn 154 0) [.lst (ns.map V.int)] []=some (.bool true,Y'):=by
 rw[bk0];generalize hx:(ns.map V.int).take 63=xs;have hxi:∀v∈xs,∃i,v=V.int i:=λv hv=>by
  rw[←hx]at hv;obtain⟨i,_,rfl⟩:=zM (List.mem_of_mem_take hv);exact⟨i,rfl⟩
 have W0:=bE4 xs hxi;unfold pC;have r1:br9 (ns.map V.int) xs (S "w")=some (.ref 12):=by ext
 have r2:br9 (ns.map V.int) xs (S "script")=some (.lst xs):=by ext
 generalize br9 (ns.map V.int) xs=ρ0 at *;obtain⟨v,hv,e⟩:=aZ6 22 W0 2 (by decide);have W1:=W0.setW 1 false;have W2:=W1.setW 1 (decide ((v:Int)=1));have eSet:b7 (.str (S "turned")) (.bool (decide ((v:Int)=1))) (.ref 12) ((an6 xs).set 12 (.dict (wD xs 1 false)))=some ((),((an6 xs).set 12 (.dict (wD xs 1 false))).set 12 (.dict (wD xs 1 (decide ((v:Int)=1))))):=by
  rw[gL W1.w (by ext) (by show 7 < 100000;lia)];have:put (.str (S "turned")) (.bool (decide ((v:Int)=1))) (wD xs 1 false)=wD xs 1 (decide ((v:Int)=1)):=by ext
  rw[this]
 rw[r1,i0,aC,st W0.wFrz,aC,st (show aD 23 (.fn 138 0) [.ref 12,.int 2] (an6 xs)=_ from e),st aW,aF,st eSet];generalize hT:decide ((v:Int)=1)=tn at *;generalize hH:((an6 xs).set 12 (.dict (wD xs 1 false))).set 12 (.dict (wD xs 1 tn))=Y0 at *;rw[st (show tyV "range" [.int 6] Y0=some (.rng 6,Y0)from rfl),st (show bU (.rng 6) Y0=some ((List.range 6).map λ(i:Nat)=>V.int i,Y0)from rfl)];have key:=ax5 (enc:=λ(i:Nat)=>V.int i) (w:=ret ()) (f:=e9 (aD 23))
  (λl ρ Y=>∃tb L at' sp,Wd Y tb L xs at' tn∧L+800 * l.length≤4800∧tb.length+60 * l.length≤376∧ρ (S "w")=some (.ref 12)∧ρ (S "script")=some (.lst xs)∧ρ (S "spent")=some (.int sp))
  (λv _=>v=.bool true) (λ_ _ _ _=>rfl)
  (λi l ρ Y hI=>by
   obtain⟨tb,L,at',sp,W,hL,htb,k1,k2,k3⟩:=hI;simp only[List.length_cons]at hL htb;rcases bu5 (i:=.int i) W (by lia) (by lia) k1 k2 k3 with⟨ρ',Y',tb',at2,sp',⟨W',l',g1,g2,g3⟩,e'⟩ | ⟨Y',e'⟩
   ·exact .inl ⟨ρ',Y',⟨tb',L+800,at2,sp',W',by lia,by lia,g1,g2,g3⟩,e'⟩
   ·exact .inr ⟨_,Y',rfl,e'⟩) (List.range 6) (upd ρ0 (S "spent") (.int 0)) Y0
  ⟨first,0,1,0,⟨_,_,_,W2⟩,by simp,by decide,by rw[aI (by nofun)];exact r1,by rw[aI (by nofun)];exact r2,bE⟩
 rcases key with⟨ρ',Y',_,e'⟩ | ⟨v,Y',rfl,e'⟩
 ·exact⟨Y',by rw[show ∀k,b9 (still ((List.range 6).map λ(i:Nat)=>V.int i) (aP (.rng 6))) (e9 (aD 23)) ((List.range 6).map λ(i:Nat)=>V.int i) _ k _=_ from e'];rfl⟩
 ·exact⟨Y',e' _⟩
end
end Mine.Internal.Pl
namespace Mine.Internal
open PySem PySem.W PyProof.Rows
theorem cb4:(faL.all λe=>((aT e.1 e.2.1).map λf=>aG2 f.sc).getD false)=true:=by ext
theorem bO4:(faL.map λe=>B.fa e.1 e.2.1)=faL.map λe=>e.2.2:=by ext
theorem cd6:(G.gtab.all λq=>!isB q.2||bOk q)=true:=by ext
theorem ca1:B.fa 154 0=856:=by ext
theorem bn5:AOc 24 callerA:=⟨rfl,by nofun,by nofun⟩
def bC1 (h:Heap):Prop:=∃K:Lk,xC K h∧bt5 K=bD4
theorem bC1.keeps {h h':Heap}(t:bC1 h)(k:∀b o,h.get? b=some o→h'.get? b=some o):bC1 h':=let ⟨K,X,e⟩:=t;⟨K,λa o g=>k _ _ (X a o g),e⟩
theorem bb0 {K:Lk}(e:bt5 K=bD4):∃es,am4 K=some es∧G.gtab.all (gOk K es)=true∧nsFind es (Str.ofString "law")=some (.ref 856):=by
 have q:=congrArg (λx=>x.2.2.2.1) e;change ((am4 K).map λes=>(G.gtab.all (gOk K es),Fast.tw16335722595253787840 es (Str.ofString "law")))=some (true,some (.ref 856))at q;obtain⟨es,h,q⟩:=Option.map_eq_some_iff.mp q;rw[←Fast.te16335722595253787840]at q;exact⟨es,h,congrArg Prod.fst q,congrArg Prod.snd q⟩
theorem wok {w:World}{h:Heap}{mg mb:Str→Option Value}{p:Program}{loose:List Str}{mean:ExcName→Option Value}{K:Lk}(X:xC K h)(e:bt5 K=bD4)(T:Top p loose mean mg mb h):WOk w h (be2 K):=by
 obtain⟨es,h1,h2,_⟩:=bb0 e;exact⟨bx0 X,T.nolimit,bI4 X T.g T.b T.builtins h1 h2 cd6,bT7 (congrArg (λx=>x.2.2.2.2) e),
  λi j f q=>bY3 X (congrArg (λx=>x.1) e).symm (congrArg (λx=>x.2.1) e) (congrArg (λx=>x.2.2.1) e) cb4 bO4 q⟩
theorem join {w:World}{s:Shared}{mg mb:Str→Option Value}{p:Program}{loose:List Str}{mean:ExcName→Option Value}{fa a:Addr}{vs:List Value}{ns:List Int}{R:Result→Shared→Prop}
  (KX:bC1 s.heap) (T:Top p loose mean mg mb s.heap) (hs:s.heap.NoSeer) (hmg:mg (Str.ofString "law")=some (.ref fa))
  (w1:Well w.params s.heap (.ref a) (ofPy (PyData.list (ns.map PyData.int)))) (hL:s.heap.IsList a vs.toArray) (hI:IntsAre vs ns) (hc:¬(63:Int) < ns.length)
  (h:∀h' t',(∀b o,s.heap.get? b=some o→h'.get? b=some o)→R (.ok (.ret (.bool true))) { s with heap:=h',toks:=t' }) :
  codeAny (model PySem.Challenge.rw_xm0449_01.row.prog w) callerA (.call (.ref fa) ⟨[.ref a],[]⟩) R s:=by
 rw[←bF3];obtain⟨K,X,oe⟩:=KX;obtain⟨es,h1,_,h3⟩:=bb0 oe;have hf:fa=B.fa 154 0:=by
  have e:=(yE X h1 T.g (Str.ofString "law")).symm.trans h3;rw[hmg]at e;cases e;exact ca1.symm
 subst hf;have g:s.heap.get? a=some (j9 vs 0):=by
  cases w1 with
  | list g _=>
   obtain⟨o,g2,_,n,g3⟩:=hL;rw[g]at g2;cases g2;cases g3;exact g
 obtain⟨Y',e⟩:=Pl.plain_law ns;refine br6 (wok X oe T) bn5 ?_ g hI (by omega) e h;obtain⟨_,⟨o,_,_,g1,_⟩,_⟩:=hs.mods;exact⟨o,g1⟩
theorem left:LeftO pV qV pV.boundNames XtV (λs=>bC1 s.heap) (λ_=>True) 11532:=
 bG7 (obs:=λs=>bt5 (tg s)) "special-get-raises" rfl rfl (λ_=>rfl) (λs e=>⟨_,bW1 s,e⟩) (Bool.forall_bool.2 ⟨cc2,cc1⟩) (Bool.forall_bool.2 ⟨cc0,cb9⟩)
end Mine.Internal
end
end
open PySem PySem.W PyProof.Rows
theorem PySem.Challenge.cw_xm0449_01_holds : PySem.Challenge.rw_xm0449_01.Holds := by
  w_on
  refine holds_law Mine.Internal.ce4 fun said => ?_
  refine holds_open (q := Mine.Internal.qV) (loose := Mine.Internal.pV.boundNames) (Xt := Mine.Internal.XtV) (XP := XL Mine.Internal.qV []) (Yf := fun s => Mine.Internal.bC1 s.heap) (Ya := fun _ => True) (YP := fun _ h => Mine.Internal.bC1 h) (N := 11532) Mine.Internal.left (fun _ _ e => e ▸ trivial) (fun _ _ _ t k => t.keeps k) (fun s e => xl_of s (Bool.and_eq_true_iff.mp e).1) XL.keeps (by rfl) (by rfl) (by rfl) (fun s e => recFacts_of (Bool.and_eq_true_iff.mp e).2) (by rfl) said (by decide +kernel) ⟨rfl, rfl, rfl, rfl, rfl, Mine.Internal.tabs⟩ ?hw ?hc
  case hw => w_witness2
  w_strict (
    intro w s₀ s₁ mg mb G Y fa o pm cd doc dV kV ho hd hcd hD hmg hg args vals as hpre hlay hrd hwl hlo
    refine Ground.open G ?_
    intro T B D TE TW
    clear ho hd hcd hD
    wrow_args hpre hlay hrd hwl hlo
    refine enter_call ?_
    refine Mine.Internal.join Y T (T.seer (by kernel_rfl)) hmg (by assumption) (by assumption) (by assumption) (by assumption) (fun h' t' k => ?_)
    refine ⟨.inl ⟨_, _, _, rfl, fun _ => rfl, .bool true, ?_, fun e => ?_⟩, .of_keep k, rfl, .of_eq hg⟩
    · kernel_rfl
    · exact ⟨List.nodup_nil, fun a q => by cases q⟩)
