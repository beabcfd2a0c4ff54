import PyProof.Rows.All
import Wide.All
import OpenK.AllK
import Wide.FinOn
import Lean
import PySem.Challenge.RW_on0010_01
set_option Elab.async false
set_option maxRecDepth 100000
set_option maxHeartbeats 0
set_option linter.unusedVariables false
section
open PySem PySem.W PySem.Calls PyProof.Rows

namespace Mine
open Lean
/-! a reader for short written tactics (dsl.py prints them): the macros of this text are strings -/
abbrev Mt := StateT (List String) MacroM
def mtNext : Mt String := do
  match ← get with
  | [] => Macro.throwError "mt: end"
  | w :: r => set r; pure w
def mtId (s : String) : Mt Ident := do
  let n ← (Macro.addMacroScope (Name.mkSimple s) : MacroM Name)
  pure (mkIdent n)
def mtGlob (s : String) : Ident := mkIdent s.toName
def mtWord (w : String) : Mt (TSyntax `tactic) := do
  match w with
  | "assumption" => `(tactic| assumption)
  | "decide" => `(tactic| decide)
  | "decideK" => `(tactic| decide +kernel)
  | "done" => `(tactic| done)
  | "k_all" => `(tactic| k_all)
  | "k_asm" => `(tactic| k_asm)
  | "k_enter" => `(tactic| k_enter)
  | "k_fold" => `(tactic| k_fold)
  | "k_get" => `(tactic| k_get)
  | "k_handed" => `(tactic| k_handed)
  | "k_here" => `(tactic| k_here)
  | "k_inst" => `(tactic| k_inst)
  | "k_is" => `(tactic| k_is)
  | "k_mem" => `(tactic| k_mem)
  | "k_ne" => `(tactic| k_ne)
  | "k_put" => `(tactic| k_put)
  | "k_room" => `(tactic| k_room)
  | "k_sweep" => `(tactic| k_sweep)
  | "k_tabat" => `(tactic| k_tabat)
  | "k_upd" => `(tactic| k_upd)
  | "k_updF" => `(tactic| k_updF)
  | "k_whole" => `(tactic| k_whole)
  | "ked_read" => `(tactic| ked_read)
  | "ked_reads" => `(tactic| ked_reads)
  | "ktr_room" => `(tactic| ktr_room)
  | "ktr_units" => `(tactic| ktr_units)
  | "lct_look" => `(tactic| lct_look)
  | "omega" => `(tactic| omega)
  | "rfl" => `(tactic| rfl)
  | _ => Macro.throwError ("mt: " ++ w)
def mtName (w : String) (h : Ident) : Mt (TSyntax `tactic) := do
  match w with
  | "k_lt" => `(tactic| k_lt $h:ident)
  | "k_lt2" => `(tactic| k_lt2 $h:ident)
  | _ => `(tactic| k_cells $h:ident)
def mt : Nat → Mt Syntax
  | 0 => Macro.throwError "mt: deep"
  | n + 1 => do
    let w ← mtNext
    let r := String.ofList w.toList.tail
    let k := r.toNat?.getD 0
    let T : Mt (TSyntax `tactic) := do pure ⟨← mt n⟩
    let M : Mt Term := do pure ⟨← mt n⟩
    let Ts : Mt (Array (TSyntax `tactic)) := (List.range k).toArray.mapM fun _ => T
    let Ms : Mt (Array Term) := (List.range k).toArray.mapM fun _ => M
    let Is : Mt (Array Ident) := (List.range k).toArray.mapM fun _ => do mtId (← mtNext)
    match w.toList.headD ' ' with
    | 'F' =>
      let ss ← (← Ts).mapM fun t => `(Lean.Parser.Tactic.tacticSeq| $t:tactic)
      `(tactic| first $[| $ss:tacticSeq]*)
    | 'S' => let ts ← Ts; `(tactic| ($[$ts:tactic];*))
    | 'C' => let h ← mtId (← mtNext); let t ← T; `(tactic| case $h:ident => $t:tactic)
    | 'T' => let t ← T; `(tactic| try $t:tactic)
    | 'P' => let t ← T; if w == "P'" then `(tactic| repeat' $t:tactic) else `(tactic| repeat $t:tactic)
    | 'G' => let t ← T; `(tactic| all_goals $t:tactic)
    | 'D' => let t ← T; `(tactic| k_dflt $t:tactic)
    | 'H' => let t ← T; `(tactic| with_reducible $t:tactic)
    | 'U' => let t ← T; `(tactic| with_unfolding_all $t:tactic)
    | 'Z' => let t ← T; let u ← T; `(tactic| $t:tactic <;> $u:tactic)
    | 'R' => let t ← M; `(tactic| refine' $t)
    | 'r' => let t ← M; `(tactic| refine $t)
    | 'E' => let t ← M; `(tactic| exact $t)
    | 'A' => let t ← M; `(tactic| apply $t)
    | 'O' => let t ← M; `(tactic| show $t)
    | 'c' => let t ← M; `(tactic| cases $t:term)
    | 'X' => `(tactic| fail "mine")
    | 'W' => let s := Syntax.mkStrLit (r.replace "~" " "); `(tactic| walk_at $s:str)
    | 'K' => return (← mtWord r)
    | 'L' => return (← mtName r (← mtId (← mtNext)))
    | 'I' =>
      let is ← (List.range k).toArray.mapM fun _ => do
        let w ← mtNext
        if w == "_" then (`(_) : Mt Term) else pure (⟨(← mtId w).raw⟩ : Term)
      `(tactic| intro $[$is:term]*)
    | 'N' => let t ← M; let h ← mtId (← mtNext); `(tactic| rename $t => $h:ident)
    | 'd' =>
      let ls ← (List.range k).toArray.mapM fun _ => do
        let h := mtGlob (← mtNext)
        `(Lean.Parser.Tactic.simpLemma| $h:term)
      let m := (← mtNext).toNat?.getD 0
      let hs ← (List.range m).toArray.mapM fun _ => do mtId (← mtNext)
      match hs with
      | #[] => `(tactic| dsimp only [$[$ls:simpLemma],*])
      | #[a] => `(tactic| dsimp only [$[$ls:simpLemma],*] at $a:ident)
      | _ => let a := hs[0]!; let b := hs[1]!; `(tactic| dsimp only [$[$ls:simpLemma],*] at $a:ident $b:ident)
    | 's' =>
      let ls ← (List.range k).toArray.mapM fun _ => do
        let h := mtGlob (← mtNext)
        `(Lean.Parser.Tactic.simpLemma| $h:term)
      let m := (← mtNext).toNat?.getD 0
      let hs ← (List.range m).toArray.mapM fun _ => do mtId (← mtNext)
      match hs with
      | #[] => `(tactic| simp only [$[$ls:simpLemma],*])
      | _ => let a := hs[0]!; `(tactic| simp only [$[$ls:simpLemma],*] at $a:ident)
    -- terms
    | 'a' => return (mtGlob r)
    | 'v' => return (← mtId r)
    | '?' => let h ← mtId r; if r == "_" then `(?_) else `(?$h:ident)
    | '_' => `(_)
    | '@' => let f ← M; let as ← Ms; return (Syntax.mkApp f as)
    | '<' => let as ← Ms; `(⟨$[$as:term],*⟩)
    | '[' => let as ← Ms; `([$[$as:term],*])
    | '$' => return (Syntax.mkStrLit (r.replace "~" " "))
    | '#' => return (Syntax.mkNumLit r)
    | 'y' => let t ← T; `(by $t:tactic)
    | '(' => let t ← M; `(($t))
    | 'l' => let xs ← Is; let b ← M; `(fun $[$xs:ident]* => $b)
    | '=' =>
      let h := mkIdent (Name.mkSimple (← mtNext)); let t ← M
      return mkNode ``Lean.Parser.Term.namedArgument #[mkAtom "(", h, mkAtom ":=", t, mkAtom ")"]
    | _ => Macro.throwError ("mt: " ++ w)
def mtRun (tbl : List (String × String)) (k : String) : MacroM Syntax := do
  match tbl.find? (fun p => p.1 == k) with
  | none => Macro.throwUnsupported
  | some p => (mt 60).run' (p.2.splitOn " ")
end Mine
end
section
open PySem PySem.W PyProof.Rows



namespace Mine
/-- a statement of the text, by its place -/
noncomputable def tlL (l : List Stmt) : List Stmt := match l with | [] => [] | _ :: r => r
noncomputable def hdL (l : List Stmt) : Stmt := match l with | [] => .Pass ⟨0, 0, 0, 0⟩ | x :: _ => x
noncomputable def bodyC (s : Stmt) : List Stmt := match s with | .ClassDef _ _ _ b _ _ _ _ _ _ _ => b | _ => []
noncomputable def paL (s : Stmt) : Arguments := match s with | .FunctionDef _ a _ _ _ _ _ _ _ _ => a | _ => { posonlyargs := [], args := [], vararg := none, kwonlyargs := [], kw_defaults := [], kwarg := none, defaults := [] }
noncomputable def boL (s : Stmt) : FuncBody := match s with | .FunctionDef _ _ b _ _ _ _ _ _ _ => .stmts b | _ => .stmts []
noncomputable def scL (s : Stmt) : Scope := match s with | .FunctionDef _ _ _ _ _ _ c _ _ _ => c | _ => ⟨.function, [], false, false, []⟩
noncomputable def textL : List Stmt := PySem.Challenge.pw_on0010_01.main.body
noncomputable def fun1F : FuncData := by
  refine' (fun (x : FuncData) (_ : (FuncData.mk (Str.ofString "__init__") (Str.ofString "ChanError.__init__") (paL (hdL (bodyC (hdL (tlL textL))))) (boL (hdL (bodyC (hdL (tlL textL))))) (scL (hdL (bodyC (hdL (tlL textL))))) 3 [] (Value.ref 22) Value.none Value.none (Value.str (Str.ofString "chancore.errors") 187) (Option.none) (Value.ref 28) Value.none 0) = x) => x) _ ?h
  case h =>
    dsimp only [tlL, hdL, bodyC, paL, boL, scL, textL, PySem.Challenge.pw_on0010_01]
    exact rfl
noncomputable def fun2F : FuncData := by
  refine' (fun (x : FuncData) (_ : (FuncData.mk (Str.ofString "__init__") (Str.ofString "MachineFault.__init__") (paL (hdL (bodyC (hdL (tlL (tlL textL)))))) (boL (hdL (bodyC (hdL (tlL (tlL textL)))))) (scL (hdL (bodyC (hdL (tlL (tlL textL)))))) 3 [] Value.none Value.none Value.none (Value.str (Str.ofString "chancore.errors") 187) (Option.none) (Value.ref 48) Value.none 0) = x) => x) _ ?h
  case h =>
    dsimp only [tlL, hdL, bodyC, paL, boL, scL, textL, PySem.Challenge.pw_on0010_01]
    exact rfl
noncomputable def fun3F : FuncData := by
  refine' (fun (x : FuncData) (_ : (FuncData.mk (Str.ofString "__init__") (Str.ofString "GoPanic.__init__") (paL (hdL (bodyC (hdL (tlL (tlL (tlL textL))))))) (boL (hdL (bodyC (hdL (tlL (tlL (tlL textL))))))) (scL (hdL (bodyC (hdL (tlL (tlL (tlL textL))))))) 3 [] Value.none Value.none Value.none (Value.str (Str.ofString "chancore.errors") 187) (Option.none) (Value.ref 67) Value.none 0) = x) => x) _ ?h
  case h =>
    dsimp only [tlL, hdL, bodyC, paL, boL, scL, textL, PySem.Challenge.pw_on0010_01]
    exact rfl
noncomputable def fun4F : FuncData := by
  refine' (fun (x : FuncData) (_ : (FuncData.mk (Str.ofString "runtime_panic") (Str.ofString "runtime_panic") (paL (hdL (tlL (tlL (tlL (tlL (tlL textL))))))) (boL (hdL (tlL (tlL (tlL (tlL (tlL textL))))))) (scL (hdL (tlL (tlL (tlL (tlL (tlL textL))))))) 3 [] Value.none Value.none Value.none (Value.str (Str.ofString "chancore.errors") 187) (Option.none) (Value.ref 80) Value.none 0) = x) => x) _ ?h
  case h =>
    dsimp only [tlL, hdL, bodyC, paL, boL, scL, textL, PySem.Challenge.pw_on0010_01]
    exact rfl
noncomputable def fun5F : FuncData := by
  refine' (fun (x : FuncData) (_ : (FuncData.mk (Str.ofString "__init__") (Str.ofString "PlainGates.__init__") (paL (hdL (bodyC (hdL (tlL (tlL (tlL (tlL (tlL (tlL (tlL textL))))))))))) (boL (hdL (bodyC (hdL (tlL (tlL (tlL (tlL (tlL (tlL (tlL textL))))))))))) (scL (hdL (bodyC (hdL (tlL (tlL (tlL (tlL (tlL (tlL (tlL textL))))))))))) 3 [] Value.none Value.none Value.none (Value.str (Str.ofString "chancore.plain_gates") 282) (Option.none) (Value.ref 94) Value.none 0) = x) => x) _ ?h
  case h =>
    dsimp only [tlL, hdL, bodyC, paL, boL, scL, textL, PySem.Challenge.pw_on0010_01]
    exact rfl
noncomputable def fun6F : FuncData := by
  refine' (fun (x : FuncData) (_ : (FuncData.mk (Str.ofString "lock_now") (Str.ofString "PlainGates.lock_now") (paL (hdL (tlL (bodyC (hdL (tlL (tlL (tlL (tlL (tlL (tlL (tlL textL)))))))))))) (boL (hdL (tlL (bodyC (hdL (tlL (tlL (tlL (tlL (tlL (tlL (tlL textL)))))))))))) (scL (hdL (tlL (bodyC (hdL (tlL (tlL (tlL (tlL (tlL (tlL (tlL textL)))))))))))) 3 [] Value.none Value.none Value.none (Value.str (Str.ofString "chancore.plain_gates") 282) (Option.none) (Value.ref 101) Value.none 0) = x) => x) _ ?h
  case h =>
    dsimp only [tlL, hdL, bodyC, paL, boL, scL, textL, PySem.Challenge.pw_on0010_01]
    exact rfl
noncomputable def fun7F : FuncData := by
  refine' (fun (x : FuncData) (_ : (FuncData.mk (Str.ofString "unlock_now") (Str.ofString "PlainGates.unlock_now") (paL (hdL (tlL (tlL (bodyC (hdL (tlL (tlL (tlL (tlL (tlL (tlL (tlL textL))))))))))))) (boL (hdL (tlL (tlL (bodyC (hdL (tlL (tlL (tlL (tlL (tlL (tlL (tlL textL))))))))))))) (scL (hdL (tlL (tlL (bodyC (hdL (tlL (tlL (tlL (tlL (tlL (tlL (tlL textL))))))))))))) 3 [] Value.none Value.none Value.none (Value.str (Str.ofString "chancore.plain_gates") 282) (Option.none) (Value.ref 108) Value.none 0) = x) => x) _ ?h
  case h =>
    dsimp only [tlL, hdL, bodyC, paL, boL, scL, textL, PySem.Challenge.pw_on0010_01]
    exact rfl
noncomputable def fun8F : FuncData := by
  refine' (fun (x : FuncData) (_ : (FuncData.mk (Str.ofString "add_now") (Str.ofString "PlainGates.add_now") (paL (hdL (tlL (tlL (tlL (bodyC (hdL (tlL (tlL (tlL (tlL (tlL (tlL (tlL textL)))))))))))))) (boL (hdL (tlL (tlL (tlL (bodyC (hdL (tlL (tlL (tlL (tlL (tlL (tlL (tlL textL)))))))))))))) (scL (hdL (tlL (tlL (tlL (bodyC (hdL (tlL (tlL (tlL (tlL (tlL (tlL (tlL textL)))))))))))))) 3 [] Value.none Value.none Value.none (Value.str (Str.ofString "chancore.plain_gates") 282) (Option.none) (Value.ref 113) Value.none 0) = x) => x) _ ?h
  case h =>
    dsimp only [tlL, hdL, bodyC, paL, boL, scL, textL, PySem.Challenge.pw_on0010_01]
    exact rfl
noncomputable def fun9F : FuncData := by
  refine' (fun (x : FuncData) (_ : (FuncData.mk (Str.ofString "wait_now") (Str.ofString "PlainGates.wait_now") (paL (hdL (tlL (tlL (tlL (tlL (bodyC (hdL (tlL (tlL (tlL (tlL (tlL (tlL (tlL textL))))))))))))))) (boL (hdL (tlL (tlL (tlL (tlL (bodyC (hdL (tlL (tlL (tlL (tlL (tlL (tlL (tlL textL))))))))))))))) (scL (hdL (tlL (tlL (tlL (tlL (bodyC (hdL (tlL (tlL (tlL (tlL (tlL (tlL (tlL textL))))))))))))))) 3 [] Value.none Value.none Value.none (Value.str (Str.ofString "chancore.plain_gates") 282) (Option.none) (Value.ref 120) Value.none 0) = x) => x) _ ?h
  case h =>
    dsimp only [tlL, hdL, bodyC, paL, boL, scL, textL, PySem.Challenge.pw_on0010_01]
    exact rfl
noncomputable def fun10F : FuncData := by
  refine' (fun (x : FuncData) (_ : (FuncData.mk (Str.ofString "__init__") (Str.ofString "Mutex.__init__") (paL (hdL (bodyC (hdL (tlL (tlL (tlL (tlL (tlL (tlL (tlL (tlL (tlL (tlL (tlL textL))))))))))))))) (boL (hdL (bodyC (hdL (tlL (tlL (tlL (tlL (tlL (tlL (tlL (tlL (tlL (tlL (tlL textL))))))))))))))) (scL (hdL (bodyC (hdL (tlL (tlL (tlL (tlL (tlL (tlL (tlL (tlL (tlL (tlL (tlL textL))))))))))))))) 3 [] Value.none Value.none Value.none (Value.str (Str.ofString "chancore.sync") 347) (Option.none) (Value.ref 143) Value.none 0) = x) => x) _ ?h
  case h =>
    dsimp only [tlL, hdL, bodyC, paL, boL, scL, textL, PySem.Challenge.pw_on0010_01]
    exact rfl
noncomputable def fun11F : FuncData := by
  refine' (fun (x : FuncData) (_ : (FuncData.mk (Str.ofString "is_locked") (Str.ofString "Mutex.is_locked") (paL (hdL (tlL (bodyC (hdL (tlL (tlL (tlL (tlL (tlL (tlL (tlL (tlL (tlL (tlL (tlL textL)))))))))))))))) (boL (hdL (tlL (bodyC (hdL (tlL (tlL (tlL (tlL (tlL (tlL (tlL (tlL (tlL (tlL (tlL textL)))))))))))))))) (scL (hdL (tlL (bodyC (hdL (tlL (tlL (tlL (tlL (tlL (tlL (tlL (tlL (tlL (tlL (tlL textL)))))))))))))))) 3 [] Value.none Value.none Value.none (Value.str (Str.ofString "chancore.sync") 347) (Option.none) (Value.ref 150) Value.none 0) = x) => x) _ ?h
  case h =>
    dsimp only [tlL, hdL, bodyC, paL, boL, scL, textL, PySem.Challenge.pw_on0010_01]
    exact rfl
noncomputable def fun12F : FuncData := by
  refine' (fun (x : FuncData) (_ : (FuncData.mk (Str.ofString "lock") (Str.ofString "Mutex.lock") (paL (hdL (tlL (tlL (bodyC (hdL (tlL (tlL (tlL (tlL (tlL (tlL (tlL (tlL (tlL (tlL (tlL textL))))))))))))))))) (boL (hdL (tlL (tlL (bodyC (hdL (tlL (tlL (tlL (tlL (tlL (tlL (tlL (tlL (tlL (tlL (tlL textL))))))))))))))))) (scL (hdL (tlL (tlL (bodyC (hdL (tlL (tlL (tlL (tlL (tlL (tlL (tlL (tlL (tlL (tlL (tlL textL))))))))))))))))) 3 [] Value.none Value.none Value.none (Value.str (Str.ofString "chancore.sync") 347) (Option.none) (Value.ref 157) Value.none 0) = x) => x) _ ?h
  case h =>
    dsimp only [tlL, hdL, bodyC, paL, boL, scL, textL, PySem.Challenge.pw_on0010_01]
    exact rfl
noncomputable def fun13F : FuncData := by
  refine' (fun (x : FuncData) (_ : (FuncData.mk (Str.ofString "unlock") (Str.ofString "Mutex.unlock") (paL (hdL (tlL (tlL (tlL (bodyC (hdL (tlL (tlL (tlL (tlL (tlL (tlL (tlL (tlL (tlL (tlL (tlL textL)))))))))))))))))) (boL (hdL (tlL (tlL (tlL (bodyC (hdL (tlL (tlL (tlL (tlL (tlL (tlL (tlL (tlL (tlL (tlL (tlL textL)))))))))))))))))) (scL (hdL (tlL (tlL (tlL (bodyC (hdL (tlL (tlL (tlL (tlL (tlL (tlL (tlL (tlL (tlL (tlL (tlL textL)))))))))))))))))) 3 [] Value.none Value.none Value.none (Value.str (Str.ofString "chancore.sync") 347) (Option.none) (Value.ref 164) Value.none 0) = x) => x) _ ?h
  case h =>
    dsimp only [tlL, hdL, bodyC, paL, boL, scL, textL, PySem.Challenge.pw_on0010_01]
    exact rfl
noncomputable def fun14F : FuncData := by
  refine' (fun (x : FuncData) (_ : (FuncData.mk (Str.ofString "__init__") (Str.ofString "WaitGroup.__init__") (paL (hdL (bodyC (hdL (tlL (tlL (tlL (tlL (tlL (tlL (tlL (tlL (tlL (tlL (tlL (tlL textL)))))))))))))))) (boL (hdL (bodyC (hdL (tlL (tlL (tlL (tlL (tlL (tlL (tlL (tlL (tlL (tlL (tlL (tlL textL)))))))))))))))) (scL (hdL (bodyC (hdL (tlL (tlL (tlL (tlL (tlL (tlL (tlL (tlL (tlL (tlL (tlL (tlL textL)))))))))))))))) 3 [] Value.none Value.none Value.none (Value.str (Str.ofString "chancore.sync") 347) (Option.none) (Value.ref 185) Value.none 0) = x) => x) _ ?h
  case h =>
    dsimp only [tlL, hdL, bodyC, paL, boL, scL, textL, PySem.Challenge.pw_on0010_01]
    exact rfl
noncomputable def fun15F : FuncData := by
  refine' (fun (x : FuncData) (_ : (FuncData.mk (Str.ofString "add") (Str.ofString "WaitGroup.add") (paL (hdL (tlL (bodyC (hdL (tlL (tlL (tlL (tlL (tlL (tlL (tlL (tlL (tlL (tlL (tlL (tlL textL))))))))))))))))) (boL (hdL (tlL (bodyC (hdL (tlL (tlL (tlL (tlL (tlL (tlL (tlL (tlL (tlL (tlL (tlL (tlL textL))))))))))))))))) (scL (hdL (tlL (bodyC (hdL (tlL (tlL (tlL (tlL (tlL (tlL (tlL (tlL (tlL (tlL (tlL (tlL textL))))))))))))))))) 3 [] Value.none Value.none Value.none (Value.str (Str.ofString "chancore.sync") 347) (Option.none) (Value.ref 192) Value.none 0) = x) => x) _ ?h
  case h =>
    dsimp only [tlL, hdL, bodyC, paL, boL, scL, textL, PySem.Challenge.pw_on0010_01]
    exact rfl
noncomputable def fun16F : FuncData := by
  refine' (fun (x : FuncData) (_ : (FuncData.mk (Str.ofString "done") (Str.ofString "WaitGroup.done") (paL (hdL (tlL (tlL (bodyC (hdL (tlL (tlL (tlL (tlL (tlL (tlL (tlL (tlL (tlL (tlL (tlL (tlL textL)))))))))))))))))) (boL (hdL (tlL (tlL (bodyC (hdL (tlL (tlL (tlL (tlL (tlL (tlL (tlL (tlL (tlL (tlL (tlL (tlL textL)))))))))))))))))) (scL (hdL (tlL (tlL (bodyC (hdL (tlL (tlL (tlL (tlL (tlL (tlL (tlL (tlL (tlL (tlL (tlL (tlL textL)))))))))))))))))) 3 [] Value.none Value.none Value.none (Value.str (Str.ofString "chancore.sync") 347) (Option.none) (Value.ref 199) Value.none 0) = x) => x) _ ?h
  case h =>
    dsimp only [tlL, hdL, bodyC, paL, boL, scL, textL, PySem.Challenge.pw_on0010_01]
    exact rfl
noncomputable def fun17F : FuncData := by
  refine' (fun (x : FuncData) (_ : (FuncData.mk (Str.ofString "wait") (Str.ofString "WaitGroup.wait") (paL (hdL (tlL (tlL (tlL (bodyC (hdL (tlL (tlL (tlL (tlL (tlL (tlL (tlL (tlL (tlL (tlL (tlL (tlL textL))))))))))))))))))) (boL (hdL (tlL (tlL (tlL (bodyC (hdL (tlL (tlL (tlL (tlL (tlL (tlL (tlL (tlL (tlL (tlL (tlL (tlL textL))))))))))))))))))) (scL (hdL (tlL (tlL (tlL (bodyC (hdL (tlL (tlL (tlL (tlL (tlL (tlL (tlL (tlL (tlL (tlL (tlL (tlL textL))))))))))))))))))) 3 [] Value.none Value.none Value.none (Value.str (Str.ofString "chancore.sync") 347) (Option.none) (Value.ref 206) Value.none 0) = x) => x) _ ?h
  case h =>
    dsimp only [tlL, hdL, bodyC, paL, boL, scL, textL, PySem.Challenge.pw_on0010_01]
    exact rfl
noncomputable def fun18F : FuncData := by
  refine' (fun (x : FuncData) (_ : (FuncData.mk (Str.ofString "_law_pool") (Str.ofString "_law_pool") (paL (hdL (tlL (tlL (tlL (tlL (tlL (tlL (tlL (tlL (tlL (tlL (tlL (tlL (tlL (tlL textL)))))))))))))))) (boL (hdL (tlL (tlL (tlL (tlL (tlL (tlL (tlL (tlL (tlL (tlL (tlL (tlL (tlL (tlL textL)))))))))))))))) (scL (hdL (tlL (tlL (tlL (tlL (tlL (tlL (tlL (tlL (tlL (tlL (tlL (tlL (tlL (tlL textL)))))))))))))))) 3 [] Value.none Value.none Value.none (Value.str (Str.ofString "law_on0010_01") 457) (Option.none) (Value.ref 220) Value.none 0) = x) => x) _ ?h
  case h =>
    dsimp only [tlL, hdL, bodyC, paL, boL, scL, textL, PySem.Challenge.pw_on0010_01]
    exact rfl
noncomputable def fun19F : FuncData := by
  refine' (fun (x : FuncData) (_ : (FuncData.mk (Str.ofString "_law_take") (Str.ofString "_law_take") (paL (hdL (tlL (tlL (tlL (tlL (tlL (tlL (tlL (tlL (tlL (tlL (tlL (tlL (tlL (tlL (tlL textL))))))))))))))))) (boL (hdL (tlL (tlL (tlL (tlL (tlL (tlL (tlL (tlL (tlL (tlL (tlL (tlL (tlL (tlL (tlL textL))))))))))))))))) (scL (hdL (tlL (tlL (tlL (tlL (tlL (tlL (tlL (tlL (tlL (tlL (tlL (tlL (tlL (tlL (tlL textL))))))))))))))))) 3 [] Value.none Value.none Value.none (Value.str (Str.ofString "law_on0010_01") 457) (Option.none) (Value.ref 227) Value.none 0) = x) => x) _ ?h
  case h =>
    dsimp only [tlL, hdL, bodyC, paL, boL, scL, textL, PySem.Challenge.pw_on0010_01]
    exact rfl
noncomputable def fun20F : FuncData := by
  refine' (fun (x : FuncData) (_ : (FuncData.mk (Str.ofString "_law_one") (Str.ofString "_law_one") (paL (hdL (tlL (tlL (tlL (tlL (tlL (tlL (tlL (tlL (tlL (tlL (tlL (tlL (tlL (tlL (tlL (tlL textL)))))))))))))))))) (boL (hdL (tlL (tlL (tlL (tlL (tlL (tlL (tlL (tlL (tlL (tlL (tlL (tlL (tlL (tlL (tlL (tlL textL)))))))))))))))))) (scL (hdL (tlL (tlL (tlL (tlL (tlL (tlL (tlL (tlL (tlL (tlL (tlL (tlL (tlL (tlL (tlL (tlL textL)))))))))))))))))) 3 [] Value.none Value.none Value.none (Value.str (Str.ofString "law_on0010_01") 457) (Option.none) (Value.ref 234) Value.none 0) = x) => x) _ ?h
  case h =>
    dsimp only [tlL, hdL, bodyC, paL, boL, scL, textL, PySem.Challenge.pw_on0010_01]
    exact rfl
noncomputable def fun21F : FuncData := by
  refine' (fun (x : FuncData) (_ : (FuncData.mk (Str.ofString "_law_scene") (Str.ofString "_law_scene") (paL (hdL (tlL (tlL (tlL (tlL (tlL (tlL (tlL (tlL (tlL (tlL (tlL (tlL (tlL (tlL (tlL (tlL (tlL textL))))))))))))))))))) (boL (hdL (tlL (tlL (tlL (tlL (tlL (tlL (tlL (tlL (tlL (tlL (tlL (tlL (tlL (tlL (tlL (tlL (tlL textL))))))))))))))))))) (scL (hdL (tlL (tlL (tlL (tlL (tlL (tlL (tlL (tlL (tlL (tlL (tlL (tlL (tlL (tlL (tlL (tlL (tlL textL))))))))))))))))))) 3 [] Value.none Value.none Value.none (Value.str (Str.ofString "law_on0010_01") 457) (Option.none) (Value.ref 241) Value.none 0) = x) => x) _ ?h
  case h =>
    dsimp only [tlL, hdL, bodyC, paL, boL, scL, textL, PySem.Challenge.pw_on0010_01]
    exact rfl
noncomputable def fun22F : FuncData := by
  refine' (fun (x : FuncData) (_ : (FuncData.mk (Str.ofString "_law_place") (Str.ofString "_law_place") (paL (hdL (tlL (tlL (tlL (tlL (tlL (tlL (tlL (tlL (tlL (tlL (tlL (tlL (tlL (tlL (tlL (tlL (tlL (tlL textL)))))))))))))))))))) (boL (hdL (tlL (tlL (tlL (tlL (tlL (tlL (tlL (tlL (tlL (tlL (tlL (tlL (tlL (tlL (tlL (tlL (tlL (tlL textL)))))))))))))))))))) (scL (hdL (tlL (tlL (tlL (tlL (tlL (tlL (tlL (tlL (tlL (tlL (tlL (tlL (tlL (tlL (tlL (tlL (tlL (tlL textL)))))))))))))))))))) 3 [] Value.none Value.none Value.none (Value.str (Str.ofString "law_on0010_01") 457) (Option.none) (Value.ref 248) Value.none 0) = x) => x) _ ?h
  case h =>
    dsimp only [tlL, hdL, bodyC, paL, boL, scL, textL, PySem.Challenge.pw_on0010_01]
    exact rfl
noncomputable def fun23F : FuncData := by
  refine' (fun (x : FuncData) (_ : (FuncData.mk (Str.ofString "_law_heard") (Str.ofString "_law_heard") (paL (hdL (tlL (tlL (tlL (tlL (tlL (tlL (tlL (tlL (tlL (tlL (tlL (tlL (tlL (tlL (tlL (tlL (tlL (tlL (tlL textL))))))))))))))))))))) (boL (hdL (tlL (tlL (tlL (tlL (tlL (tlL (tlL (tlL (tlL (tlL (tlL (tlL (tlL (tlL (tlL (tlL (tlL (tlL (tlL textL))))))))))))))))))))) (scL (hdL (tlL (tlL (tlL (tlL (tlL (tlL (tlL (tlL (tlL (tlL (tlL (tlL (tlL (tlL (tlL (tlL (tlL (tlL (tlL textL))))))))))))))))))))) 3 [] Value.none Value.none Value.none (Value.str (Str.ofString "law_on0010_01") 457) (Option.none) (Value.ref 255) Value.none 0) = x) => x) _ ?h
  case h =>
    dsimp only [tlL, hdL, bodyC, paL, boL, scL, textL, PySem.Challenge.pw_on0010_01]
    exact rfl
noncomputable def fun24F : FuncData := by
  refine' (fun (x : FuncData) (_ : (FuncData.mk (Str.ofString "_law_queued") (Str.ofString "_law_queued") (paL (hdL (tlL (tlL (tlL (tlL (tlL (tlL (tlL (tlL (tlL (tlL (tlL (tlL (tlL (tlL (tlL (tlL (tlL (tlL (tlL (tlL textL)))))))))))))))))))))) (boL (hdL (tlL (tlL (tlL (tlL (tlL (tlL (tlL (tlL (tlL (tlL (tlL (tlL (tlL (tlL (tlL (tlL (tlL (tlL (tlL (tlL textL)))))))))))))))))))))) (scL (hdL (tlL (tlL (tlL (tlL (tlL (tlL (tlL (tlL (tlL (tlL (tlL (tlL (tlL (tlL (tlL (tlL (tlL (tlL (tlL (tlL textL)))))))))))))))))))))) 3 [] Value.none Value.none Value.none (Value.str (Str.ofString "law_on0010_01") 457) (Option.none) (Value.ref 262) Value.none 0) = x) => x) _ ?h
  case h =>
    dsimp only [tlL, hdL, bodyC, paL, boL, scL, textL, PySem.Challenge.pw_on0010_01]
    exact rfl
noncomputable def fun25F : FuncData := by
  refine' (fun (x : FuncData) (_ : (FuncData.mk (Str.ofString "_law_plain") (Str.ofString "_law_plain") (paL (hdL (tlL (tlL (tlL (tlL (tlL (tlL (tlL (tlL (tlL (tlL (tlL (tlL (tlL (tlL (tlL (tlL (tlL (tlL (tlL (tlL (tlL textL))))))))))))))))))))))) (boL (hdL (tlL (tlL (tlL (tlL (tlL (tlL (tlL (tlL (tlL (tlL (tlL (tlL (tlL (tlL (tlL (tlL (tlL (tlL (tlL (tlL (tlL textL))))))))))))))))))))))) (scL (hdL (tlL (tlL (tlL (tlL (tlL (tlL (tlL (tlL (tlL (tlL (tlL (tlL (tlL (tlL (tlL (tlL (tlL (tlL (tlL (tlL (tlL textL))))))))))))))))))))))) 3 [] Value.none Value.none Value.none (Value.str (Str.ofString "law_on0010_01") 457) (Option.none) (Value.ref 269) Value.none 0) = x) => x) _ ?h
  case h =>
    dsimp only [tlL, hdL, bodyC, paL, boL, scL, textL, PySem.Challenge.pw_on0010_01]
    exact rfl
noncomputable def fun26F : FuncData := by
  refine' (fun (x : FuncData) (_ : (FuncData.mk (Str.ofString "_law_stands") (Str.ofString "_law_stands") (paL (hdL (tlL (tlL (tlL (tlL (tlL (tlL (tlL (tlL (tlL (tlL (tlL (tlL (tlL (tlL (tlL (tlL (tlL (tlL (tlL (tlL (tlL (tlL textL)))))))))))))))))))))))) (boL (hdL (tlL (tlL (tlL (tlL (tlL (tlL (tlL (tlL (tlL (tlL (tlL (tlL (tlL (tlL (tlL (tlL (tlL (tlL (tlL (tlL (tlL (tlL textL)))))))))))))))))))))))) (scL (hdL (tlL (tlL (tlL (tlL (tlL (tlL (tlL (tlL (tlL (tlL (tlL (tlL (tlL (tlL (tlL (tlL (tlL (tlL (tlL (tlL (tlL (tlL textL)))))))))))))))))))))))) 3 [] Value.none Value.none Value.none (Value.str (Str.ofString "law_on0010_01") 457) (Option.none) (Value.ref 274) Value.none 0) = x) => x) _ ?h
  case h =>
    dsimp only [tlL, hdL, bodyC, paL, boL, scL, textL, PySem.Challenge.pw_on0010_01]
    exact rfl
noncomputable def fun27F : FuncData := by
  refine' (fun (x : FuncData) (_ : (FuncData.mk (Str.ofString "_law_deed_right") (Str.ofString "_law_deed_right") (paL (hdL (tlL (tlL (tlL (tlL (tlL (tlL (tlL (tlL (tlL (tlL (tlL (tlL (tlL (tlL (tlL (tlL (tlL (tlL (tlL (tlL (tlL (tlL (tlL textL))))))))))))))))))))))))) (boL (hdL (tlL (tlL (tlL (tlL (tlL (tlL (tlL (tlL (tlL (tlL (tlL (tlL (tlL (tlL (tlL (tlL (tlL (tlL (tlL (tlL (tlL (tlL (tlL textL))))))))))))))))))))))))) (scL (hdL (tlL (tlL (tlL (tlL (tlL (tlL (tlL (tlL (tlL (tlL (tlL (tlL (tlL (tlL (tlL (tlL (tlL (tlL (tlL (tlL (tlL (tlL (tlL textL))))))))))))))))))))))))) 3 [] Value.none Value.none Value.none (Value.str (Str.ofString "law_on0010_01") 457) (Option.none) (Value.ref 281) Value.none 0) = x) => x) _ ?h
  case h =>
    dsimp only [tlL, hdL, bodyC, paL, boL, scL, textL, PySem.Challenge.pw_on0010_01]
    exact rfl
noncomputable def fun28F : FuncData := by
  refine' (fun (x : FuncData) (_ : (FuncData.mk (Str.ofString "_law_told_first") (Str.ofString "_law_told_first") (paL (hdL (tlL (tlL (tlL (tlL (tlL (tlL (tlL (tlL (tlL (tlL (tlL (tlL (tlL (tlL (tlL (tlL (tlL (tlL (tlL (tlL (tlL (tlL (tlL (tlL textL)))))))))))))))))))))))))) (boL (hdL (tlL (tlL (tlL (tlL (tlL (tlL (tlL (tlL (tlL (tlL (tlL (tlL (tlL (tlL (tlL (tlL (tlL (tlL (tlL (tlL (tlL (tlL (tlL (tlL textL)))))))))))))))))))))))))) (scL (hdL (tlL (tlL (tlL (tlL (tlL (tlL (tlL (tlL (tlL (tlL (tlL (tlL (tlL (tlL (tlL (tlL (tlL (tlL (tlL (tlL (tlL (tlL (tlL (tlL textL)))))))))))))))))))))))))) 3 [] Value.none Value.none Value.none (Value.str (Str.ofString "law_on0010_01") 457) (Option.none) (Value.ref 288) Value.none 0) = x) => x) _ ?h
  case h =>
    dsimp only [tlL, hdL, bodyC, paL, boL, scL, textL, PySem.Challenge.pw_on0010_01]
    exact rfl
noncomputable def fun29F : FuncData := by
  refine' (fun (x : FuncData) (_ : (FuncData.mk (Str.ofString "law") (Str.ofString "law") (paL (hdL (tlL (tlL (tlL (tlL (tlL (tlL (tlL (tlL (tlL (tlL (tlL (tlL (tlL (tlL (tlL (tlL (tlL (tlL (tlL (tlL (tlL (tlL (tlL (tlL (tlL textL))))))))))))))))))))))))))) (boL (hdL (tlL (tlL (tlL (tlL (tlL (tlL (tlL (tlL (tlL (tlL (tlL (tlL (tlL (tlL (tlL (tlL (tlL (tlL (tlL (tlL (tlL (tlL (tlL (tlL (tlL textL))))))))))))))))))))))))))) (scL (hdL (tlL (tlL (tlL (tlL (tlL (tlL (tlL (tlL (tlL (tlL (tlL (tlL (tlL (tlL (tlL (tlL (tlL (tlL (tlL (tlL (tlL (tlL (tlL (tlL (tlL textL))))))))))))))))))))))))))) 3 [] Value.none Value.none Value.none (Value.str (Str.ofString "law_on0010_01") 457) (Option.none) (Value.ref 293) Value.none 0) = x) => x) _ ?h
  case h =>
    dsimp only [tlL, hdL, bodyC, paL, boL, scL, textL, PySem.Challenge.pw_on0010_01]
    exact rfl
noncomputable def heapK : Params → Frag := fun P =>
   ((nat_lit 2), (Obj.mk Value.none (Option.none) (Data.dict #[(DictEntry.mk (PyData.keyHash P (Str.ofString "type.__subclasses__.Exception.0")) (Value.str (Str.ofString "type.__subclasses__.Exception.0") 217) (Value.int 32 0)), (DictEntry.mk (PyData.keyHash P (Str.ofString "type.__subclasses__.Exception.n")) (Value.str (Str.ofString "type.__subclasses__.Exception.n") 218) (Value.int 1 0))] 2) #[])) ::
   ((nat_lit 3), (Obj.mk (Value.type "dict") (Option.none) (Data.dict #[(DictEntry.mk (PyData.keyHash P (Str.ofString "__name__")) (Value.str (Str.ofString "__name__") 165) (Value.str (Str.ofString "law_on0010_01") 457)), (DictEntry.mk (PyData.keyHash P (Str.ofString "__doc__")) (Value.str (Str.ofString "__doc__") 166) Value.none), (DictEntry.mk (PyData.keyHash P (Str.ofString "__package__")) (Value.str (Str.ofString "__package__") 167) Value.none), (DictEntry.mk (PyData.keyHash P (Str.ofString "__loader__")) (Value.str (Str.ofString "__loader__") 168) (Value.builtin "__main__.__loader__#opaque")), (DictEntry.mk (PyData.keyHash P (Str.ofString "__spec__")) (Value.str (Str.ofString "__spec__") 169) Value.none), (DictEntry.mk (PyData.keyHash P (Str.ofString "__annotations__")) (Value.str (Str.ofString "__annotations__") 170) (Value.ref 6)), (DictEntry.mk (PyData.keyHash P (Str.ofString "__builtins__")) (Value.str (Str.ofString "__builtins__") 171) (Value.ref 4)), (DictEntry.mk (PyData.keyHash P (Str.ofString "__file__")) (Value.str (Str.ofString "__file__") 173) (Value.str (Str.ofString "/claim/cut.py") 172)), (DictEntry.mk (PyData.keyHash P (Str.ofString "__cached__")) (Value.str (Str.ofString "__cached__") 174) Value.none), (DictEntry.mk (PyData.keyHash P (Str.ofString "ChanError")) (Value.str (Str.ofString "ChanError") 220) (Value.ref 32)), (DictEntry.mk (PyData.keyHash P (Str.ofString "MachineFault")) (Value.str (Str.ofString "MachineFault") 246) (Value.ref 52)), (DictEntry.mk (PyData.keyHash P (Str.ofString "GoPanic")) (Value.str (Str.ofString "GoPanic") 271) (Value.ref 71)), (DictEntry.mk (PyData.keyHash P (Str.ofString "RUNTIME_ERROR")) (Value.str (Str.ofString "RUNTIME_ERROR") 274) (Value.ref 74)), (DictEntry.mk (PyData.keyHash P (Str.ofString "runtime_panic")) (Value.str (Str.ofString "runtime_panic") 281) (Value.ref 81)), (DictEntry.mk (PyData.keyHash P (Str.ofString "PlainGates")) (Value.str (Str.ofString "PlainGates") 346) (Value.ref 124)), (DictEntry.mk (PyData.keyHash P (Str.ofString "DONE")) (Value.str (Str.ofString "DONE") 350) (Value.ref 129)), (DictEntry.mk (PyData.keyHash P (Str.ofString "WAITS")) (Value.str (Str.ofString "WAITS") 352) (Value.ref 130)), (DictEntry.mk (PyData.keyHash P (Str.ofString "Mutex")) (Value.str (Str.ofString "Mutex") 403) (Value.ref 168)), (DictEntry.mk (PyData.keyHash P (Str.ofString "WaitGroup")) (Value.str (Str.ofString "WaitGroup") 456) (Value.ref 210)), (DictEntry.mk (PyData.keyHash P (Str.ofString "_law_pool")) (Value.str (Str.ofString "_law_pool") 469) (Value.ref 221)), (DictEntry.mk (PyData.keyHash P (Str.ofString "_law_take")) (Value.str (Str.ofString "_law_take") 478) (Value.ref 228)), (DictEntry.mk (PyData.keyHash P (Str.ofString "_law_one")) (Value.str (Str.ofString "_law_one") 486) (Value.ref 235)), (DictEntry.mk (PyData.keyHash P (Str.ofString "_law_scene")) (Value.str (Str.ofString "_law_scene") 492) (Value.ref 242)), (DictEntry.mk (PyData.keyHash P (Str.ofString "_law_place")) (Value.str (Str.ofString "_law_place") 499) (Value.ref 249)), (DictEntry.mk (PyData.keyHash P (Str.ofString "_law_heard")) (Value.str (Str.ofString "_law_heard") 507) (Value.ref 256)), (DictEntry.mk (PyData.keyHash P (Str.ofString "_law_queued")) (Value.str (Str.ofString "_law_queued") 520) (Value.ref 263)), (DictEntry.mk (PyData.keyHash P (Str.ofString "_law_plain")) (Value.str (Str.ofString "_law_plain") 533) (Value.ref 270)), (DictEntry.mk (PyData.keyHash P (Str.ofString "_law_stands")) (Value.str (Str.ofString "_law_stands") 539) (Value.ref 275)), (DictEntry.mk (PyData.keyHash P (Str.ofString "_law_deed_right")) (Value.str (Str.ofString "_law_deed_right") 558) (Value.ref 282)), (DictEntry.mk (PyData.keyHash P (Str.ofString "_law_told_first")) (Value.str (Str.ofString "_law_told_first") 567) (Value.ref 289)), (DictEntry.mk (PyData.keyHash P (Str.ofString "law")) (Value.str (Str.ofString "law") 573) (Value.ref 294))] 31) #[])) ::
   ((nat_lit 15), (Obj.mk (Value.type "tuple") (Option.none) (Data.seq #[(Value.type "Exception")] 0) #[])) ::
   ((nat_lit 22), (Obj.mk (Value.type "tuple") (Option.none) (Data.seq #[(Value.int 0 201)] 0) #[])) ::
   ((nat_lit 23), (Obj.mk (Value.type "tuple") (Option.none) (Data.seq #[] 0) #[])) ::
   ((nat_lit 25), (Obj.mk (Value.type "tuple") (Option.none) (Data.seq #[(Value.str (Str.ofString "self") 205), (Value.str (Str.ofString "message") 206), (Value.str (Str.ofString "spot") 207)] 0) #[])) ::
   ((nat_lit 26), (Obj.mk (Value.type "tuple") (Option.none) (Data.seq #[] 0) #[])) ::
   ((nat_lit 28), (Obj.mk (Value.type "code") (Option.none) (Data.fields #[(Value.str (Str.ofString "__init__") 202), (Value.str (Str.ofString "ChanError.__init__") 203), (Value.str (Str.ofString "/claim/cut.py") 204), (Value.int 4 0), (Value.int 3 0), (Value.int 0 0), (Value.int 0 0), (Value.int 3 0), (Value.ref 23), (Value.bool Bool.true), (Value.int 181 0), (Value.ref 24), Value.none, (Value.ref 25), (Value.ref 26), (Value.ref 27), (Value.int 208 0), (Value.int 4 0), (Value.str (Str.ofString "/claim/cut.py") 209)]) #[])) ::
   ((nat_lit 29), (Obj.mk (Value.type "function") (Option.none) (Data.func fun1F) #[])) ::
   ((nat_lit 30), (Obj.mk (Value.type "tuple") (Option.none) (Data.seq #[(Value.str (Str.ofString "message") 211), (Value.str (Str.ofString "spot") 212)] 0) #[])) ::
   ((nat_lit 31), (Obj.mk (Value.type "dict") (Option.none) (Data.dict #[(DictEntry.mk (PyData.keyHash P (Str.ofString "__module__")) (Value.str (Str.ofString "__module__") 196) (Value.str (Str.ofString "chancore.errors") 187)), (DictEntry.mk (PyData.keyHash P (Str.ofString "__firstlineno__")) (Value.str (Str.ofString "__firstlineno__") 200) (Value.int 2 199)), (DictEntry.mk (PyData.keyHash P (Str.ofString "__init__")) (Value.str (Str.ofString "__init__") 210) (Value.ref 29)), (DictEntry.mk (PyData.keyHash P (Str.ofString "__static_attributes__")) (Value.str (Str.ofString "__static_attributes__") 213) (Value.ref 30)), (DictEntry.mk (PyData.keyHash P (Str.ofString "__weakref__")) (Value.str (Str.ofString "__weakref__") 215) (Value.ref 33)), (DictEntry.mk (PyData.keyHash P (Str.ofString "__doc__")) (Value.str (Str.ofString "__doc__") 216) Value.none)] 3) #[])) ::
   ((nat_lit 32), (Obj.mk (Value.type "type") (Option.none) (Data.cls (ClassData.mk (Str.ofString "ChanError") [(Value.type "Exception")] [(Value.ref 32), (Value.type "Exception"), (Value.type "BaseException"), (Value.type "object")] 31 (Str.ofString "ChanError") Bool.true [] [(Value.ref 52), (Value.ref 71)] Bool.false (Option.none) Bool.false)) #[(Option.some (Value.ref 15)), (Option.none), (Option.some (Value.str (Str.ofString "ChanError") 189)), (Option.some (Value.str (Str.ofString "ChanError") 197)), (Option.some (Value.builtin "Exception.__new__")), (Option.some (Value.bool Bool.true))])) ::
   ((nat_lit 33), (Obj.mk (Value.type "getset_descriptor") (Option.none) (Data.fields #[(Value.str (Str.ofString "__weakref__") 214), (Value.ref 32), (Value.builtin "ExceptionGroup.__weakref__"), Value.none]) #[])) ::
   ((nat_lit 36), (Obj.mk (Value.type "tuple") (Option.none) (Data.seq #[(Value.ref 32)] 0) #[])) ::
   ((nat_lit 43), (Obj.mk (Value.type "tuple") (Option.none) (Data.seq #[] 0) #[])) ::
   ((nat_lit 45), (Obj.mk (Value.type "tuple") (Option.none) (Data.seq #[(Value.str (Str.ofString "self") 236), (Value.str (Str.ofString "kind") 237), (Value.str (Str.ofString "message") 238)] 0) #[])) ::
   ((nat_lit 46), (Obj.mk (Value.type "tuple") (Option.none) (Data.seq #[] 0) #[])) ::
   ((nat_lit 48), (Obj.mk (Value.type "code") (Option.none) (Data.fields #[(Value.str (Str.ofString "__init__") 233), (Value.str (Str.ofString "MachineFault.__init__") 234), (Value.str (Str.ofString "/claim/cut.py") 235), (Value.int 10 0), (Value.int 3 0), (Value.int 0 0), (Value.int 0 0), (Value.int 3 0), (Value.ref 43), (Value.bool Bool.true), (Value.int 181 0), (Value.ref 44), Value.none, (Value.ref 45), (Value.ref 46), (Value.ref 47), (Value.int 239 0), (Value.int 10 0), (Value.str (Str.ofString "/claim/cut.py") 240)]) #[])) ::
   ((nat_lit 49), (Obj.mk (Value.type "function") (Option.none) (Data.func fun2F) #[])) ::
   ((nat_lit 50), (Obj.mk (Value.type "tuple") (Option.none) (Data.seq #[(Value.str (Str.ofString "kind") 242)] 0) #[])) ::
   ((nat_lit 51), (Obj.mk (Value.type "dict") (Option.none) (Data.dict #[(DictEntry.mk (PyData.keyHash P (Str.ofString "__module__")) (Value.str (Str.ofString "__module__") 228) (Value.str (Str.ofString "chancore.errors") 187)), (DictEntry.mk (PyData.keyHash P (Str.ofString "__firstlineno__")) (Value.str (Str.ofString "__firstlineno__") 232) (Value.int 8 231)), (DictEntry.mk (PyData.keyHash P (Str.ofString "__init__")) (Value.str (Str.ofString "__init__") 241) (Value.ref 49)), (DictEntry.mk (PyData.keyHash P (Str.ofString "__static_attributes__")) (Value.str (Str.ofString "__static_attributes__") 243) (Value.ref 50)), (DictEntry.mk (PyData.keyHash P (Str.ofString "__doc__")) (Value.str (Str.ofString "__doc__") 244) Value.none)] 2) #[])) ::
   ((nat_lit 52), (Obj.mk (Value.type "type") (Option.none) (Data.cls (ClassData.mk (Str.ofString "MachineFault") [(Value.ref 32)] [(Value.ref 52), (Value.ref 32), (Value.type "Exception"), (Value.type "BaseException"), (Value.type "object")] 51 (Str.ofString "MachineFault") Bool.true [] [] Bool.false (Option.none) Bool.false)) #[(Option.some (Value.ref 36)), (Option.none), (Option.some (Value.str (Str.ofString "MachineFault") 221)), (Option.some (Value.str (Str.ofString "MachineFault") 229)), (Option.some (Value.builtin "Exception.__new__")), (Option.some (Value.bool Bool.true))])) ::
   ((nat_lit 55), (Obj.mk (Value.type "tuple") (Option.none) (Data.seq #[(Value.ref 32)] 0) #[])) ::
   ((nat_lit 62), (Obj.mk (Value.type "tuple") (Option.none) (Data.seq #[] 0) #[])) ::
   ((nat_lit 64), (Obj.mk (Value.type "tuple") (Option.none) (Data.seq #[(Value.str (Str.ofString "self") 262), (Value.str (Str.ofString "value") 263)] 0) #[])) ::
   ((nat_lit 65), (Obj.mk (Value.type "tuple") (Option.none) (Data.seq #[] 0) #[])) ::
   ((nat_lit 67), (Obj.mk (Value.type "code") (Option.none) (Data.fields #[(Value.str (Str.ofString "__init__") 259), (Value.str (Str.ofString "GoPanic.__init__") 260), (Value.str (Str.ofString "/claim/cut.py") 261), (Value.int 15 0), (Value.int 2 0), (Value.int 0 0), (Value.int 0 0), (Value.int 3 0), (Value.ref 62), (Value.bool Bool.true), (Value.int 181 0), (Value.ref 63), Value.none, (Value.ref 64), (Value.ref 65), (Value.ref 66), (Value.int 264 0), (Value.int 15 0), (Value.str (Str.ofString "/claim/cut.py") 265)]) #[])) ::
   ((nat_lit 68), (Obj.mk (Value.type "function") (Option.none) (Data.func fun3F) #[])) ::
   ((nat_lit 69), (Obj.mk (Value.type "tuple") (Option.none) (Data.seq #[(Value.str (Str.ofString "value") 267)] 0) #[])) ::
   ((nat_lit 70), (Obj.mk (Value.type "dict") (Option.none) (Data.dict #[(DictEntry.mk (PyData.keyHash P (Str.ofString "__module__")) (Value.str (Str.ofString "__module__") 254) (Value.str (Str.ofString "chancore.errors") 187)), (DictEntry.mk (PyData.keyHash P (Str.ofString "__firstlineno__")) (Value.str (Str.ofString "__firstlineno__") 258) (Value.int 13 257)), (DictEntry.mk (PyData.keyHash P (Str.ofString "__init__")) (Value.str (Str.ofString "__init__") 266) (Value.ref 68)), (DictEntry.mk (PyData.keyHash P (Str.ofString "__static_attributes__")) (Value.str (Str.ofString "__static_attributes__") 268) (Value.ref 69)), (DictEntry.mk (PyData.keyHash P (Str.ofString "__doc__")) (Value.str (Str.ofString "__doc__") 269) Value.none)] 2) #[])) ::
   ((nat_lit 71), (Obj.mk (Value.type "type") (Option.none) (Data.cls (ClassData.mk (Str.ofString "GoPanic") [(Value.ref 32)] [(Value.ref 71), (Value.ref 32), (Value.type "Exception"), (Value.type "BaseException"), (Value.type "object")] 70 (Str.ofString "GoPanic") Bool.true [] [] Bool.false (Option.none) Bool.false)) #[(Option.some (Value.ref 55)), (Option.none), (Option.some (Value.str (Str.ofString "GoPanic") 247)), (Option.some (Value.str (Str.ofString "GoPanic") 255)), (Option.some (Value.builtin "Exception.__new__")), (Option.some (Value.bool Bool.true))])) ::
   ((nat_lit 74), (Obj.mk (Value.type "tuple") (Option.none) (Data.seq #[(Value.str (Str.ofString "named") 272), (Value.str (Str.ofString "runtime.Error") 273)] 0) #[])) ::
   ((nat_lit 75), (Obj.mk (Value.type "tuple") (Option.none) (Data.seq #[] 0) #[])) ::
   ((nat_lit 77), (Obj.mk (Value.type "tuple") (Option.none) (Data.seq #[(Value.str (Str.ofString "text") 278)] 0) #[])) ::
   ((nat_lit 78), (Obj.mk (Value.type "tuple") (Option.none) (Data.seq #[] 0) #[])) ::
   ((nat_lit 80), (Obj.mk (Value.type "code") (Option.none) (Data.fields #[(Value.str (Str.ofString "runtime_panic") 275), (Value.str (Str.ofString "runtime_panic") 276), (Value.str (Str.ofString "/claim/cut.py") 277), (Value.int 19 0), (Value.int 1 0), (Value.int 0 0), (Value.int 0 0), (Value.int 3 0), (Value.ref 75), (Value.bool Bool.true), (Value.int 181 0), (Value.ref 76), Value.none, (Value.ref 77), (Value.ref 78), (Value.ref 79), (Value.int 279 0), (Value.int 19 0), (Value.str (Str.ofString "/claim/cut.py") 280)]) #[])) ::
   ((nat_lit 81), (Obj.mk (Value.type "function") (Option.none) (Data.func fun4F) #[])) ::
   ((nat_lit 89), (Obj.mk (Value.type "tuple") (Option.none) (Data.seq #[] 0) #[])) ::
   ((nat_lit 91), (Obj.mk (Value.type "tuple") (Option.none) (Data.seq #[(Value.str (Str.ofString "self") 299)] 0) #[])) ::
   ((nat_lit 92), (Obj.mk (Value.type "tuple") (Option.none) (Data.seq #[] 0) #[])) ::
   ((nat_lit 94), (Obj.mk (Value.type "code") (Option.none) (Data.fields #[(Value.str (Str.ofString "__init__") 296), (Value.str (Str.ofString "PlainGates.__init__") 297), (Value.str (Str.ofString "/claim/cut.py") 298), (Value.int 24 0), (Value.int 1 0), (Value.int 0 0), (Value.int 0 0), (Value.int 3 0), (Value.ref 89), (Value.bool Bool.true), (Value.int 181 0), (Value.ref 90), Value.none, (Value.ref 91), (Value.ref 92), (Value.ref 93), (Value.int 300 0), (Value.int 24 0), (Value.str (Str.ofString "/claim/cut.py") 301)]) #[])) ::
   ((nat_lit 95), (Obj.mk (Value.type "function") (Option.none) (Data.func fun5F) #[])) ::
   ((nat_lit 96), (Obj.mk (Value.type "tuple") (Option.none) (Data.seq #[] 0) #[])) ::
   ((nat_lit 98), (Obj.mk (Value.type "tuple") (Option.none) (Data.seq #[(Value.str (Str.ofString "self") 306), (Value.str (Str.ofString "place") 307), (Value.str (Str.ofString "goroutine") 308)] 0) #[])) ::
   ((nat_lit 99), (Obj.mk (Value.type "tuple") (Option.none) (Data.seq #[] 0) #[])) ::
   ((nat_lit 101), (Obj.mk (Value.type "code") (Option.none) (Data.fields #[(Value.str (Str.ofString "lock_now") 303), (Value.str (Str.ofString "PlainGates.lock_now") 304), (Value.str (Str.ofString "/claim/cut.py") 305), (Value.int 29 0), (Value.int 3 0), (Value.int 0 0), (Value.int 0 0), (Value.int 3 0), (Value.ref 96), (Value.bool Bool.true), (Value.int 181 0), (Value.ref 97), Value.none, (Value.ref 98), (Value.ref 99), (Value.ref 100), (Value.int 309 0), (Value.int 29 0), (Value.str (Str.ofString "/claim/cut.py") 310)]) #[])) ::
   ((nat_lit 102), (Obj.mk (Value.type "function") (Option.none) (Data.func fun6F) #[])) ::
   ((nat_lit 103), (Obj.mk (Value.type "tuple") (Option.none) (Data.seq #[] 0) #[])) ::
   ((nat_lit 105), (Obj.mk (Value.type "tuple") (Option.none) (Data.seq #[(Value.str (Str.ofString "self") 315), (Value.str (Str.ofString "place") 316), (Value.str (Str.ofString "row") 317)] 0) #[])) ::
   ((nat_lit 106), (Obj.mk (Value.type "tuple") (Option.none) (Data.seq #[] 0) #[])) ::
   ((nat_lit 108), (Obj.mk (Value.type "code") (Option.none) (Data.fields #[(Value.str (Str.ofString "unlock_now") 312), (Value.str (Str.ofString "PlainGates.unlock_now") 313), (Value.str (Str.ofString "/claim/cut.py") 314), (Value.int 36 0), (Value.int 2 0), (Value.int 0 0), (Value.int 0 0), (Value.int 3 0), (Value.ref 103), (Value.bool Bool.true), (Value.int 181 0), (Value.ref 104), Value.none, (Value.ref 105), (Value.ref 106), (Value.ref 107), (Value.int 318 0), (Value.int 36 0), (Value.str (Str.ofString "/claim/cut.py") 319)]) #[])) ::
   ((nat_lit 109), (Obj.mk (Value.type "function") (Option.none) (Data.func fun7F) #[])) ::
   ((nat_lit 110), (Obj.mk (Value.type "tuple") (Option.none) (Data.seq #[] 0) #[])) ::
   ((nat_lit 113), (Obj.mk (Value.type "code") (Option.none) (Data.fields #[(Value.str (Str.ofString "add_now") 321), (Value.str (Str.ofString "PlainGates.add_now") 322), (Value.str (Str.ofString "/claim/cut.py") 323), (Value.int 46 0), (Value.int 3 0), (Value.int 0 0), (Value.int 0 0), (Value.int 3 0), (Value.ref 110), (Value.bool Bool.true), (Value.int 181 0), (Value.ref 111), Value.none, Value.none, Value.none, (Value.ref 112), (Value.int 324 0), (Value.int 46 0), (Value.str (Str.ofString "/claim/cut.py") 325)]) #[])) ::
   ((nat_lit 114), (Obj.mk (Value.type "function") (Option.none) (Data.func fun8F) #[])) ::
   ((nat_lit 115), (Obj.mk (Value.type "tuple") (Option.none) (Data.seq #[] 0) #[])) ::
   ((nat_lit 117), (Obj.mk (Value.type "tuple") (Option.none) (Data.seq #[(Value.str (Str.ofString "self") 330), (Value.str (Str.ofString "place") 331), (Value.str (Str.ofString "goroutine") 332)] 0) #[])) ::
   ((nat_lit 118), (Obj.mk (Value.type "tuple") (Option.none) (Data.seq #[] 0) #[])) ::
   ((nat_lit 120), (Obj.mk (Value.type "code") (Option.none) (Data.fields #[(Value.str (Str.ofString "wait_now") 327), (Value.str (Str.ofString "PlainGates.wait_now") 328), (Value.str (Str.ofString "/claim/cut.py") 329), (Value.int 57 0), (Value.int 3 0), (Value.int 0 0), (Value.int 0 0), (Value.int 3 0), (Value.ref 115), (Value.bool Bool.true), (Value.int 181 0), (Value.ref 116), Value.none, (Value.ref 117), (Value.ref 118), (Value.ref 119), (Value.int 333 0), (Value.int 57 0), (Value.str (Str.ofString "/claim/cut.py") 334)]) #[])) ::
   ((nat_lit 121), (Obj.mk (Value.type "function") (Option.none) (Data.func fun9F) #[])) ::
   ((nat_lit 122), (Obj.mk (Value.type "tuple") (Option.none) (Data.seq #[(Value.str (Str.ofString "counts") 336), (Value.str (Str.ofString "held") 337), (Value.str (Str.ofString "waiting") 338)] 0) #[])) ::
   ((nat_lit 123), (Obj.mk (Value.type "dict") (Option.none) (Data.dict #[(DictEntry.mk (PyData.keyHash P (Str.ofString "__module__")) (Value.str (Str.ofString "__module__") 291) (Value.str (Str.ofString "chancore.plain_gates") 282)), (DictEntry.mk (PyData.keyHash P (Str.ofString "__firstlineno__")) (Value.str (Str.ofString "__firstlineno__") 295) (Value.int 22 294)), (DictEntry.mk (PyData.keyHash P (Str.ofString "__init__")) (Value.str (Str.ofString "__init__") 302) (Value.ref 95)), (DictEntry.mk (PyData.keyHash P (Str.ofString "lock_now")) (Value.str (Str.ofString "lock_now") 311) (Value.ref 102)), (DictEntry.mk (PyData.keyHash P (Str.ofString "unlock_now")) (Value.str (Str.ofString "unlock_now") 320) (Value.ref 109)), (DictEntry.mk (PyData.keyHash P (Str.ofString "add_now")) (Value.str (Str.ofString "add_now") 326) (Value.ref 114)), (DictEntry.mk (PyData.keyHash P (Str.ofString "wait_now")) (Value.str (Str.ofString "wait_now") 335) (Value.ref 121)), (DictEntry.mk (PyData.keyHash P (Str.ofString "__static_attributes__")) (Value.str (Str.ofString "__static_attributes__") 339) (Value.ref 122)), (DictEntry.mk (PyData.keyHash P (Str.ofString "__dict__")) (Value.str (Str.ofString "__dict__") 341) (Value.ref 125)), (DictEntry.mk (PyData.keyHash P (Str.ofString "__weakref__")) (Value.str (Str.ofString "__weakref__") 343) (Value.ref 126)), (DictEntry.mk (PyData.keyHash P (Str.ofString "__doc__")) (Value.str (Str.ofString "__doc__") 344) Value.none)] 4) #[])) ::
   ((nat_lit 124), (Obj.mk (Value.type "type") (Option.none) (Data.cls (ClassData.mk (Str.ofString "PlainGates") [(Value.type "object")] [(Value.ref 124), (Value.type "object")] 123 (Str.ofString "PlainGates") Bool.true [] [] Bool.false (Option.none) Bool.false)) #[(Option.none), (Option.none), (Option.some (Value.str (Str.ofString "PlainGates") 284)), (Option.some (Value.str (Str.ofString "PlainGates") 292)), (Option.some (Value.builtin "object.__new__")), (Option.some (Value.bool Bool.true))])) ::
   ((nat_lit 125), (Obj.mk (Value.type "getset_descriptor") (Option.none) (Data.fields #[(Value.str (Str.ofString "__dict__") 340), (Value.ref 124), (Value.builtin "function.__dict__"), (Value.builtin "function.__dict__#set")]) #[])) ::
   ((nat_lit 126), (Obj.mk (Value.type "getset_descriptor") (Option.none) (Data.fields #[(Value.str (Str.ofString "__weakref__") 342), (Value.ref 124), (Value.builtin "ExceptionGroup.__weakref__"), Value.none]) #[])) ::
   ((nat_lit 129), (Obj.mk (Value.type "tuple") (Option.none) (Data.seq #[(Value.str (Str.ofString "done") 349)] 0) #[])) ::
   ((nat_lit 130), (Obj.mk (Value.type "tuple") (Option.none) (Data.seq #[(Value.str (Str.ofString "blocked") 351)] 0) #[])) ::
   ((nat_lit 138), (Obj.mk (Value.type "tuple") (Option.none) (Data.seq #[] 0) #[])) ::
   ((nat_lit 140), (Obj.mk (Value.type "tuple") (Option.none) (Data.seq #[(Value.str (Str.ofString "self") 368)] 0) #[])) ::
   ((nat_lit 141), (Obj.mk (Value.type "tuple") (Option.none) (Data.seq #[] 0) #[])) ::
   ((nat_lit 143), (Obj.mk (Value.type "code") (Option.none) (Data.fields #[(Value.str (Str.ofString "__init__") 365), (Value.str (Str.ofString "Mutex.__init__") 366), (Value.str (Str.ofString "/claim/cut.py") 367), (Value.int 67 0), (Value.int 1 0), (Value.int 0 0), (Value.int 0 0), (Value.int 3 0), (Value.ref 138), (Value.bool Bool.true), (Value.int 181 0), (Value.ref 139), Value.none, (Value.ref 140), (Value.ref 141), (Value.ref 142), (Value.int 369 0), (Value.int 67 0), (Value.str (Str.ofString "/claim/cut.py") 370)]) #[])) ::
   ((nat_lit 144), (Obj.mk (Value.type "function") (Option.none) (Data.func fun10F) #[])) ::
   ((nat_lit 145), (Obj.mk (Value.type "tuple") (Option.none) (Data.seq #[] 0) #[])) ::
   ((nat_lit 147), (Obj.mk (Value.type "tuple") (Option.none) (Data.seq #[(Value.str (Str.ofString "self") 375)] 0) #[])) ::
   ((nat_lit 148), (Obj.mk (Value.type "tuple") (Option.none) (Data.seq #[] 0) #[])) ::
   ((nat_lit 150), (Obj.mk (Value.type "code") (Option.none) (Data.fields #[(Value.str (Str.ofString "is_locked") 372), (Value.str (Str.ofString "Mutex.is_locked") 373), (Value.str (Str.ofString "/claim/cut.py") 374), (Value.int 71 0), (Value.int 1 0), (Value.int 0 0), (Value.int 0 0), (Value.int 3 0), (Value.ref 145), (Value.bool Bool.true), (Value.int 181 0), (Value.ref 146), Value.none, (Value.ref 147), (Value.ref 148), (Value.ref 149), (Value.int 376 0), (Value.int 71 0), (Value.str (Str.ofString "/claim/cut.py") 377)]) #[])) ::
   ((nat_lit 151), (Obj.mk (Value.type "function") (Option.none) (Data.func fun11F) #[])) ::
   ((nat_lit 152), (Obj.mk (Value.type "tuple") (Option.none) (Data.seq #[] 0) #[])) ::
   ((nat_lit 154), (Obj.mk (Value.type "tuple") (Option.none) (Data.seq #[(Value.str (Str.ofString "self") 382), (Value.str (Str.ofString "number") 383)] 0) #[])) ::
   ((nat_lit 155), (Obj.mk (Value.type "tuple") (Option.none) (Data.seq #[] 0) #[])) ::
   ((nat_lit 157), (Obj.mk (Value.type "code") (Option.none) (Data.fields #[(Value.str (Str.ofString "lock") 379), (Value.str (Str.ofString "Mutex.lock") 380), (Value.str (Str.ofString "/claim/cut.py") 381), (Value.int 74 0), (Value.int 2 0), (Value.int 0 0), (Value.int 0 0), (Value.int 3 0), (Value.ref 152), (Value.bool Bool.true), (Value.int 181 0), (Value.ref 153), Value.none, (Value.ref 154), (Value.ref 155), (Value.ref 156), (Value.int 384 0), (Value.int 74 0), (Value.str (Str.ofString "/claim/cut.py") 385)]) #[])) ::
   ((nat_lit 158), (Obj.mk (Value.type "function") (Option.none) (Data.func fun12F) #[])) ::
   ((nat_lit 159), (Obj.mk (Value.type "tuple") (Option.none) (Data.seq #[] 0) #[])) ::
   ((nat_lit 161), (Obj.mk (Value.type "tuple") (Option.none) (Data.seq #[(Value.str (Str.ofString "self") 390)] 0) #[])) ::
   ((nat_lit 162), (Obj.mk (Value.type "tuple") (Option.none) (Data.seq #[] 0) #[])) ::
   ((nat_lit 164), (Obj.mk (Value.type "code") (Option.none) (Data.fields #[(Value.str (Str.ofString "unlock") 387), (Value.str (Str.ofString "Mutex.unlock") 388), (Value.str (Str.ofString "/claim/cut.py") 389), (Value.int 83 0), (Value.int 1 0), (Value.int 0 0), (Value.int 0 0), (Value.int 3 0), (Value.ref 159), (Value.bool Bool.true), (Value.int 181 0), (Value.ref 160), Value.none, (Value.ref 161), (Value.ref 162), (Value.ref 163), (Value.int 391 0), (Value.int 83 0), (Value.str (Str.ofString "/claim/cut.py") 392)]) #[])) ::
   ((nat_lit 165), (Obj.mk (Value.type "function") (Option.none) (Data.func fun13F) #[])) ::
   ((nat_lit 166), (Obj.mk (Value.type "tuple") (Option.none) (Data.seq #[(Value.str (Str.ofString "owner") 394), (Value.str (Str.ofString "waiting") 395)] 0) #[])) ::
   ((nat_lit 167), (Obj.mk (Value.type "dict") (Option.none) (Data.dict #[(DictEntry.mk (PyData.keyHash P (Str.ofString "__module__")) (Value.str (Str.ofString "__module__") 360) (Value.str (Str.ofString "chancore.sync") 347)), (DictEntry.mk (PyData.keyHash P (Str.ofString "__firstlineno__")) (Value.str (Str.ofString "__firstlineno__") 364) (Value.int 65 363)), (DictEntry.mk (PyData.keyHash P (Str.ofString "__init__")) (Value.str (Str.ofString "__init__") 371) (Value.ref 144)), (DictEntry.mk (PyData.keyHash P (Str.ofString "is_locked")) (Value.str (Str.ofString "is_locked") 378) (Value.ref 151)), (DictEntry.mk (PyData.keyHash P (Str.ofString "lock")) (Value.str (Str.ofString "lock") 386) (Value.ref 158)), (DictEntry.mk (PyData.keyHash P (Str.ofString "unlock")) (Value.str (Str.ofString "unlock") 393) (Value.ref 165)), (DictEntry.mk (PyData.keyHash P (Str.ofString "__static_attributes__")) (Value.str (Str.ofString "__static_attributes__") 396) (Value.ref 166)), (DictEntry.mk (PyData.keyHash P (Str.ofString "__dict__")) (Value.str (Str.ofString "__dict__") 398) (Value.ref 169)), (DictEntry.mk (PyData.keyHash P (Str.ofString "__weakref__")) (Value.str (Str.ofString "__weakref__") 400) (Value.ref 170)), (DictEntry.mk (PyData.keyHash P (Str.ofString "__doc__")) (Value.str (Str.ofString "__doc__") 401) Value.none)] 4) #[])) ::
   ((nat_lit 168), (Obj.mk (Value.type "type") (Option.none) (Data.cls (ClassData.mk (Str.ofString "Mutex") [(Value.type "object")] [(Value.ref 168), (Value.type "object")] 167 (Str.ofString "Mutex") Bool.true [] [] Bool.false (Option.none) Bool.false)) #[(Option.none), (Option.none), (Option.some (Value.str (Str.ofString "Mutex") 353)), (Option.some (Value.str (Str.ofString "Mutex") 361)), (Option.some (Value.builtin "object.__new__")), (Option.some (Value.bool Bool.true))])) ::
   ((nat_lit 169), (Obj.mk (Value.type "getset_descriptor") (Option.none) (Data.fields #[(Value.str (Str.ofString "__dict__") 397), (Value.ref 168), (Value.builtin "function.__dict__"), (Value.builtin "function.__dict__#set")]) #[])) ::
   ((nat_lit 170), (Obj.mk (Value.type "getset_descriptor") (Option.none) (Data.fields #[(Value.str (Str.ofString "__weakref__") 399), (Value.ref 168), (Value.builtin "ExceptionGroup.__weakref__"), Value.none]) #[])) ::
   ((nat_lit 180), (Obj.mk (Value.type "tuple") (Option.none) (Data.seq #[] 0) #[])) ::
   ((nat_lit 182), (Obj.mk (Value.type "tuple") (Option.none) (Data.seq #[(Value.str (Str.ofString "self") 419)] 0) #[])) ::
   ((nat_lit 183), (Obj.mk (Value.type "tuple") (Option.none) (Data.seq #[] 0) #[])) ::
   ((nat_lit 185), (Obj.mk (Value.type "code") (Option.none) (Data.fields #[(Value.str (Str.ofString "__init__") 416), (Value.str (Str.ofString "WaitGroup.__init__") 417), (Value.str (Str.ofString "/claim/cut.py") 418), (Value.int 90 0), (Value.int 1 0), (Value.int 0 0), (Value.int 0 0), (Value.int 3 0), (Value.ref 180), (Value.bool Bool.true), (Value.int 181 0), (Value.ref 181), Value.none, (Value.ref 182), (Value.ref 183), (Value.ref 184), (Value.int 420 0), (Value.int 90 0), (Value.str (Str.ofString "/claim/cut.py") 421)]) #[])) ::
   ((nat_lit 186), (Obj.mk (Value.type "function") (Option.none) (Data.func fun14F) #[])) ::
   ((nat_lit 187), (Obj.mk (Value.type "tuple") (Option.none) (Data.seq #[] 0) #[])) ::
   ((nat_lit 189), (Obj.mk (Value.type "tuple") (Option.none) (Data.seq #[(Value.str (Str.ofString "self") 426), (Value.str (Str.ofString "many") 427), (Value.str (Str.ofString "woken") 428)] 0) #[])) ::
   ((nat_lit 190), (Obj.mk (Value.type "tuple") (Option.none) (Data.seq #[] 0) #[])) ::
   ((nat_lit 192), (Obj.mk (Value.type "code") (Option.none) (Data.fields #[(Value.str (Str.ofString "add") 423), (Value.str (Str.ofString "WaitGroup.add") 424), (Value.str (Str.ofString "/claim/cut.py") 425), (Value.int 94 0), (Value.int 2 0), (Value.int 0 0), (Value.int 0 0), (Value.int 3 0), (Value.ref 187), (Value.bool Bool.true), (Value.int 181 0), (Value.ref 188), Value.none, (Value.ref 189), (Value.ref 190), (Value.ref 191), (Value.int 429 0), (Value.int 94 0), (Value.str (Str.ofString "/claim/cut.py") 430)]) #[])) ::
   ((nat_lit 193), (Obj.mk (Value.type "function") (Option.none) (Data.func fun15F) #[])) ::
   ((nat_lit 194), (Obj.mk (Value.type "tuple") (Option.none) (Data.seq #[] 0) #[])) ::
   ((nat_lit 196), (Obj.mk (Value.type "tuple") (Option.none) (Data.seq #[(Value.str (Str.ofString "self") 435)] 0) #[])) ::
   ((nat_lit 197), (Obj.mk (Value.type "tuple") (Option.none) (Data.seq #[] 0) #[])) ::
   ((nat_lit 199), (Obj.mk (Value.type "code") (Option.none) (Data.fields #[(Value.str (Str.ofString "done") 432), (Value.str (Str.ofString "WaitGroup.done") 433), (Value.str (Str.ofString "/claim/cut.py") 434), (Value.int 103 0), (Value.int 1 0), (Value.int 0 0), (Value.int 0 0), (Value.int 3 0), (Value.ref 194), (Value.bool Bool.true), (Value.int 181 0), (Value.ref 195), Value.none, (Value.ref 196), (Value.ref 197), (Value.ref 198), (Value.int 436 0), (Value.int 103 0), (Value.str (Str.ofString "/claim/cut.py") 437)]) #[])) ::
   ((nat_lit 200), (Obj.mk (Value.type "function") (Option.none) (Data.func fun16F) #[])) ::
   ((nat_lit 201), (Obj.mk (Value.type "tuple") (Option.none) (Data.seq #[] 0) #[])) ::
   ((nat_lit 203), (Obj.mk (Value.type "tuple") (Option.none) (Data.seq #[(Value.str (Str.ofString "self") 442), (Value.str (Str.ofString "number") 443)] 0) #[])) ::
   ((nat_lit 204), (Obj.mk (Value.type "tuple") (Option.none) (Data.seq #[] 0) #[])) ::
   ((nat_lit 206), (Obj.mk (Value.type "code") (Option.none) (Data.fields #[(Value.str (Str.ofString "wait") 439), (Value.str (Str.ofString "WaitGroup.wait") 440), (Value.str (Str.ofString "/claim/cut.py") 441), (Value.int 106 0), (Value.int 2 0), (Value.int 0 0), (Value.int 0 0), (Value.int 3 0), (Value.ref 201), (Value.bool Bool.true), (Value.int 181 0), (Value.ref 202), Value.none, (Value.ref 203), (Value.ref 204), (Value.ref 205), (Value.int 444 0), (Value.int 106 0), (Value.str (Str.ofString "/claim/cut.py") 445)]) #[])) ::
   ((nat_lit 207), (Obj.mk (Value.type "function") (Option.none) (Data.func fun17F) #[])) ::
   ((nat_lit 208), (Obj.mk (Value.type "tuple") (Option.none) (Data.seq #[(Value.str (Str.ofString "count") 447), (Value.str (Str.ofString "waiting") 448)] 0) #[])) ::
   ((nat_lit 209), (Obj.mk (Value.type "dict") (Option.none) (Data.dict #[(DictEntry.mk (PyData.keyHash P (Str.ofString "__module__")) (Value.str (Str.ofString "__module__") 411) (Value.str (Str.ofString "chancore.sync") 347)), (DictEntry.mk (PyData.keyHash P (Str.ofString "__firstlineno__")) (Value.str (Str.ofString "__firstlineno__") 415) (Value.int 88 414)), (DictEntry.mk (PyData.keyHash P (Str.ofString "__init__")) (Value.str (Str.ofString "__init__") 422) (Value.ref 186)), (DictEntry.mk (PyData.keyHash P (Str.ofString "add")) (Value.str (Str.ofString "add") 431) (Value.ref 193)), (DictEntry.mk (PyData.keyHash P (Str.ofString "done")) (Value.str (Str.ofString "done") 438) (Value.ref 200)), (DictEntry.mk (PyData.keyHash P (Str.ofString "wait")) (Value.str (Str.ofString "wait") 446) (Value.ref 207)), (DictEntry.mk (PyData.keyHash P (Str.ofString "__static_attributes__")) (Value.str (Str.ofString "__static_attributes__") 449) (Value.ref 208)), (DictEntry.mk (PyData.keyHash P (Str.ofString "__dict__")) (Value.str (Str.ofString "__dict__") 451) (Value.ref 211)), (DictEntry.mk (PyData.keyHash P (Str.ofString "__weakref__")) (Value.str (Str.ofString "__weakref__") 453) (Value.ref 212)), (DictEntry.mk (PyData.keyHash P (Str.ofString "__doc__")) (Value.str (Str.ofString "__doc__") 454) Value.none)] 4) #[])) ::
   ((nat_lit 210), (Obj.mk (Value.type "type") (Option.none) (Data.cls (ClassData.mk (Str.ofString "WaitGroup") [(Value.type "object")] [(Value.ref 210), (Value.type "object")] 209 (Str.ofString "WaitGroup") Bool.true [] [] Bool.false (Option.none) Bool.false)) #[(Option.none), (Option.none), (Option.some (Value.str (Str.ofString "WaitGroup") 404)), (Option.some (Value.str (Str.ofString "WaitGroup") 412)), (Option.some (Value.builtin "object.__new__")), (Option.some (Value.bool Bool.true))])) ::
   ((nat_lit 211), (Obj.mk (Value.type "getset_descriptor") (Option.none) (Data.fields #[(Value.str (Str.ofString "__dict__") 450), (Value.ref 210), (Value.builtin "function.__dict__"), (Value.builtin "function.__dict__#set")]) #[])) ::
   ((nat_lit 212), (Obj.mk (Value.type "getset_descriptor") (Option.none) (Data.fields #[(Value.str (Str.ofString "__weakref__") 452), (Value.ref 210), (Value.builtin "ExceptionGroup.__weakref__"), Value.none]) #[])) ::
   ((nat_lit 215), (Obj.mk (Value.type "tuple") (Option.none) (Data.seq #[] 0) #[])) ::
   ((nat_lit 217), (Obj.mk (Value.type "tuple") (Option.none) (Data.seq #[(Value.str (Str.ofString "script") 462), (Value.str (Str.ofString "k") 463), (Value.str (Str.ofString "cell") 464), (Value.str (Str.ofString "big") 465), (Value.str (Str.ofString "mixed") 466)] 0) #[])) ::
   ((nat_lit 218), (Obj.mk (Value.type "tuple") (Option.none) (Data.seq #[] 0) #[])) ::
   ((nat_lit 220), (Obj.mk (Value.type "code") (Option.none) (Data.fields #[(Value.str (Str.ofString "_law_pool") 459), (Value.str (Str.ofString "_law_pool") 460), (Value.str (Str.ofString "/claim/cut.py") 461), (Value.int 112 0), (Value.int 2 0), (Value.int 0 0), (Value.int 0 0), (Value.int 3 0), (Value.ref 215), (Value.bool Bool.true), (Value.int 181 0), (Value.ref 216), Value.none, (Value.ref 217), (Value.ref 218), (Value.ref 219), (Value.int 467 0), (Value.int 112 0), (Value.str (Str.ofString "/claim/cut.py") 468)]) #[])) ::
   ((nat_lit 221), (Obj.mk (Value.type "function") (Option.none) (Data.func fun18F) #[])) ::
   ((nat_lit 222), (Obj.mk (Value.type "tuple") (Option.none) (Data.seq #[] 0) #[])) ::
   ((nat_lit 224), (Obj.mk (Value.type "tuple") (Option.none) (Data.seq #[(Value.str (Str.ofString "source") 473), (Value.str (Str.ofString "top") 474), (Value.str (Str.ofString "drawn") 475)] 0) #[])) ::
   ((nat_lit 225), (Obj.mk (Value.type "tuple") (Option.none) (Data.seq #[] 0) #[])) ::
   ((nat_lit 227), (Obj.mk (Value.type "code") (Option.none) (Data.fields #[(Value.str (Str.ofString "_law_take") 470), (Value.str (Str.ofString "_law_take") 471), (Value.str (Str.ofString "/claim/cut.py") 472), (Value.int 119 0), (Value.int 2 0), (Value.int 0 0), (Value.int 0 0), (Value.int 3 0), (Value.ref 222), (Value.bool Bool.true), (Value.int 181 0), (Value.ref 223), Value.none, (Value.ref 224), (Value.ref 225), (Value.ref 226), (Value.int 476 0), (Value.int 119 0), (Value.str (Str.ofString "/claim/cut.py") 477)]) #[])) ::
   ((nat_lit 228), (Obj.mk (Value.type "function") (Option.none) (Data.func fun19F) #[])) ::
   ((nat_lit 229), (Obj.mk (Value.type "tuple") (Option.none) (Data.seq #[] 0) #[])) ::
   ((nat_lit 231), (Obj.mk (Value.type "tuple") (Option.none) (Data.seq #[(Value.str (Str.ofString "source") 482), (Value.str (Str.ofString "things") 483)] 0) #[])) ::
   ((nat_lit 232), (Obj.mk (Value.type "tuple") (Option.none) (Data.seq #[] 0) #[])) ::
   ((nat_lit 234), (Obj.mk (Value.type "code") (Option.none) (Data.fields #[(Value.str (Str.ofString "_law_one") 479), (Value.str (Str.ofString "_law_one") 480), (Value.str (Str.ofString "/claim/cut.py") 481), (Value.int 126 0), (Value.int 2 0), (Value.int 0 0), (Value.int 0 0), (Value.int 3 0), (Value.ref 229), (Value.bool Bool.true), (Value.int 181 0), (Value.ref 230), Value.none, (Value.ref 231), (Value.ref 232), (Value.ref 233), (Value.int 484 0), (Value.int 126 0), (Value.str (Str.ofString "/claim/cut.py") 485)]) #[])) ::
   ((nat_lit 235), (Obj.mk (Value.type "function") (Option.none) (Data.func fun20F) #[])) ::
   ((nat_lit 236), (Obj.mk (Value.type "tuple") (Option.none) (Data.seq #[] 0) #[])) ::
   ((nat_lit 238), (Obj.mk (Value.type "tuple") (Option.none) (Data.seq #[] 0) #[])) ::
   ((nat_lit 239), (Obj.mk (Value.type "tuple") (Option.none) (Data.seq #[] 0) #[])) ::
   ((nat_lit 241), (Obj.mk (Value.type "code") (Option.none) (Data.fields #[(Value.str (Str.ofString "_law_scene") 487), (Value.str (Str.ofString "_law_scene") 488), (Value.str (Str.ofString "/claim/cut.py") 489), (Value.int 128 0), (Value.int 0 0), (Value.int 0 0), (Value.int 0 0), (Value.int 3 0), (Value.ref 236), (Value.bool Bool.true), (Value.int 181 0), (Value.ref 237), Value.none, (Value.ref 238), (Value.ref 239), (Value.ref 240), (Value.int 490 0), (Value.int 128 0), (Value.str (Str.ofString "/claim/cut.py") 491)]) #[])) ::
   ((nat_lit 242), (Obj.mk (Value.type "function") (Option.none) (Data.func fun21F) #[])) ::
   ((nat_lit 243), (Obj.mk (Value.type "tuple") (Option.none) (Data.seq #[] 0) #[])) ::
   ((nat_lit 245), (Obj.mk (Value.type "tuple") (Option.none) (Data.seq #[(Value.str (Str.ofString "at") 496)] 0) #[])) ::
   ((nat_lit 246), (Obj.mk (Value.type "tuple") (Option.none) (Data.seq #[] 0) #[])) ::
   ((nat_lit 248), (Obj.mk (Value.type "code") (Option.none) (Data.fields #[(Value.str (Str.ofString "_law_place") 493), (Value.str (Str.ofString "_law_place") 494), (Value.str (Str.ofString "/claim/cut.py") 495), (Value.int 130 0), (Value.int 1 0), (Value.int 0 0), (Value.int 0 0), (Value.int 3 0), (Value.ref 243), (Value.bool Bool.true), (Value.int 181 0), (Value.ref 244), Value.none, (Value.ref 245), (Value.ref 246), (Value.ref 247), (Value.int 497 0), (Value.int 130 0), (Value.str (Str.ofString "/claim/cut.py") 498)]) #[])) ::
   ((nat_lit 249), (Obj.mk (Value.type "function") (Option.none) (Data.func fun22F) #[])) ::
   ((nat_lit 250), (Obj.mk (Value.type "tuple") (Option.none) (Data.seq #[] 0) #[])) ::
   ((nat_lit 252), (Obj.mk (Value.type "tuple") (Option.none) (Data.seq #[(Value.str (Str.ofString "call") 503), (Value.str (Str.ofString "fault") 504)] 0) #[])) ::
   ((nat_lit 253), (Obj.mk (Value.type "tuple") (Option.none) (Data.seq #[] 0) #[])) ::
   ((nat_lit 255), (Obj.mk (Value.type "code") (Option.none) (Data.fields #[(Value.str (Str.ofString "_law_heard") 500), (Value.str (Str.ofString "_law_heard") 501), (Value.str (Str.ofString "/claim/cut.py") 502), (Value.int 132 0), (Value.int 1 0), (Value.int 0 0), (Value.int 0 0), (Value.int 3 0), (Value.ref 250), (Value.bool Bool.true), (Value.int 181 0), (Value.ref 251), Value.none, (Value.ref 252), (Value.ref 253), (Value.ref 254), (Value.int 505 0), (Value.int 132 0), (Value.str (Str.ofString "/claim/cut.py") 506)]) #[])) ::
   ((nat_lit 256), (Obj.mk (Value.type "function") (Option.none) (Data.func fun23F) #[])) ::
   ((nat_lit 257), (Obj.mk (Value.type "tuple") (Option.none) (Data.seq #[] 0) #[])) ::
   ((nat_lit 259), (Obj.mk (Value.type "tuple") (Option.none) (Data.seq #[(Value.str (Str.ofString "scene") 511), (Value.str (Str.ofString "goroutine") 512), (Value.str (Str.ofString "word") 513), (Value.str (Str.ofString "at") 514), (Value.str (Str.ofString "many") 515), (Value.str (Str.ofString "gate") 516), (Value.str (Str.ofString "found") 517)] 0) #[])) ::
   ((nat_lit 260), (Obj.mk (Value.type "tuple") (Option.none) (Data.seq #[] 0) #[])) ::
   ((nat_lit 262), (Obj.mk (Value.type "code") (Option.none) (Data.fields #[(Value.str (Str.ofString "_law_queued") 508), (Value.str (Str.ofString "_law_queued") 509), (Value.str (Str.ofString "/claim/cut.py") 510), (Value.int 137 0), (Value.int 5 0), (Value.int 0 0), (Value.int 0 0), (Value.int 3 0), (Value.ref 257), (Value.bool Bool.true), (Value.int 181 0), (Value.ref 258), Value.none, (Value.ref 259), (Value.ref 260), (Value.ref 261), (Value.int 518 0), (Value.int 137 0), (Value.str (Str.ofString "/claim/cut.py") 519)]) #[])) ::
   ((nat_lit 263), (Obj.mk (Value.type "function") (Option.none) (Data.func fun24F) #[])) ::
   ((nat_lit 264), (Obj.mk (Value.type "tuple") (Option.none) (Data.seq #[] 0) #[])) ::
   ((nat_lit 266), (Obj.mk (Value.type "tuple") (Option.none) (Data.seq #[(Value.str (Str.ofString "scene") 524), (Value.str (Str.ofString "goroutine") 525), (Value.str (Str.ofString "word") 526), (Value.str (Str.ofString "at") 527), (Value.str (Str.ofString "many") 528), (Value.str (Str.ofString "plain") 529), (Value.str (Str.ofString "place") 530)] 0) #[])) ::
   ((nat_lit 267), (Obj.mk (Value.type "tuple") (Option.none) (Data.seq #[] 0) #[])) ::
   ((nat_lit 269), (Obj.mk (Value.type "code") (Option.none) (Data.fields #[(Value.str (Str.ofString "_law_plain") 521), (Value.str (Str.ofString "_law_plain") 522), (Value.str (Str.ofString "/claim/cut.py") 523), (Value.int 147 0), (Value.int 5 0), (Value.int 0 0), (Value.int 0 0), (Value.int 3 0), (Value.ref 264), (Value.bool Bool.true), (Value.int 181 0), (Value.ref 265), Value.none, (Value.ref 266), (Value.ref 267), (Value.ref 268), (Value.int 531 0), (Value.int 147 0), (Value.str (Str.ofString "/claim/cut.py") 532)]) #[])) ::
   ((nat_lit 270), (Obj.mk (Value.type "function") (Option.none) (Data.func fun25F) #[])) ::
   ((nat_lit 271), (Obj.mk (Value.type "tuple") (Option.none) (Data.seq #[] 0) #[])) ::
   ((nat_lit 274), (Obj.mk (Value.type "code") (Option.none) (Data.fields #[(Value.str (Str.ofString "_law_stands") 534), (Value.str (Str.ofString "_law_stands") 535), (Value.str (Str.ofString "/claim/cut.py") 536), (Value.int 154 0), (Value.int 1 0), (Value.int 0 0), (Value.int 0 0), (Value.int 3 0), (Value.ref 271), (Value.bool Bool.true), (Value.int 181 0), (Value.ref 272), Value.none, Value.none, Value.none, (Value.ref 273), (Value.int 537 0), (Value.int 154 0), (Value.str (Str.ofString "/claim/cut.py") 538)]) #[])) ::
   ((nat_lit 275), (Obj.mk (Value.type "function") (Option.none) (Data.func fun26F) #[])) ::
   ((nat_lit 276), (Obj.mk (Value.type "tuple") (Option.none) (Data.seq #[] 0) #[])) ::
   ((nat_lit 278), (Obj.mk (Value.type "tuple") (Option.none) (Data.seq #[(Value.str (Str.ofString "scene") 543), (Value.str (Str.ofString "goroutine") 544), (Value.str (Str.ofString "word") 545), (Value.str (Str.ofString "at") 546), (Value.str (Str.ofString "many") 547), (Value.str (Str.ofString "due") 548), (Value.str (Str.ofString "told") 549), (Value.str (Str.ofString "other") 550)] 0) #[])) ::
   ((nat_lit 279), (Obj.mk (Value.type "tuple") (Option.none) (Data.seq #[(Value.str (Str.ofString "scene") 551), (Value.str (Str.ofString "goroutine") 552), (Value.str (Str.ofString "word") 553), (Value.str (Str.ofString "at") 554), (Value.str (Str.ofString "many") 555)] 0) #[])) ::
   ((nat_lit 281), (Obj.mk (Value.type "code") (Option.none) (Data.fields #[(Value.str (Str.ofString "_law_deed_right") 540), (Value.str (Str.ofString "_law_deed_right") 541), (Value.str (Str.ofString "/claim/cut.py") 542), (Value.int 165 0), (Value.int 5 0), (Value.int 0 0), (Value.int 0 0), (Value.int 3 0), (Value.ref 276), (Value.bool Bool.true), (Value.int 181 0), (Value.ref 277), Value.none, (Value.ref 278), (Value.ref 279), (Value.ref 280), (Value.int 556 0), (Value.int 165 0), (Value.str (Str.ofString "/claim/cut.py") 557)]) #[])) ::
   ((nat_lit 282), (Obj.mk (Value.type "function") (Option.none) (Data.func fun27F) #[])) ::
   ((nat_lit 283), (Obj.mk (Value.type "tuple") (Option.none) (Data.seq #[] 0) #[])) ::
   ((nat_lit 285), (Obj.mk (Value.type "tuple") (Option.none) (Data.seq #[(Value.str (Str.ofString "scene") 562), (Value.str (Str.ofString "goroutine") 563), (Value.str (Str.ofString "word") 564)] 0) #[])) ::
   ((nat_lit 286), (Obj.mk (Value.type "tuple") (Option.none) (Data.seq #[] 0) #[])) ::
   ((nat_lit 288), (Obj.mk (Value.type "code") (Option.none) (Data.fields #[(Value.str (Str.ofString "_law_told_first") 559), (Value.str (Str.ofString "_law_told_first") 560), (Value.str (Str.ofString "/claim/cut.py") 561), (Value.int 177 0), (Value.int 0 0), (Value.int 0 0), (Value.int 0 0), (Value.int 3 0), (Value.ref 283), (Value.bool Bool.true), (Value.int 181 0), (Value.ref 284), Value.none, (Value.ref 285), (Value.ref 286), (Value.ref 287), (Value.int 565 0), (Value.int 177 0), (Value.str (Str.ofString "/claim/cut.py") 566)]) #[])) ::
   ((nat_lit 289), (Obj.mk (Value.type "function") (Option.none) (Data.func fun28F) #[])) ::
   ((nat_lit 290), (Obj.mk (Value.type "tuple") (Option.none) (Data.seq #[] 0) #[])) ::
   ((nat_lit 293), (Obj.mk (Value.type "code") (Option.none) (Data.fields #[(Value.str (Str.ofString "law") 568), (Value.str (Str.ofString "law") 569), (Value.str (Str.ofString "/claim/cut.py") 570), (Value.int 183 0), (Value.int 1 0), (Value.int 0 0), (Value.int 0 0), (Value.int 3 0), (Value.ref 290), (Value.bool Bool.true), (Value.int 181 0), (Value.ref 291), Value.none, Value.none, Value.none, (Value.ref 292), (Value.int 571 0), (Value.int 183 0), (Value.str (Str.ofString "/claim/cut.py") 572)]) #[])) ::
   ((nat_lit 294), (Obj.mk (Value.type "function") (Option.none) (Data.func fun29F) #[])) :: []
noncomputable def vRaw (l : List Stmt) : List Stmt := [(hdL (tlL l)), (hdL (tlL (tlL l))), (hdL (tlL (tlL (tlL l)))), (hdL (tlL (tlL (tlL (tlL l))))), (hdL (tlL (tlL (tlL (tlL (tlL l)))))), (hdL (tlL (tlL (tlL (tlL (tlL (tlL (tlL l)))))))), (hdL (tlL (tlL (tlL (tlL (tlL (tlL (tlL (tlL (tlL l)))))))))), (hdL (tlL (tlL (tlL (tlL (tlL (tlL (tlL (tlL (tlL (tlL l))))))))))), (hdL (tlL (tlL (tlL (tlL (tlL (tlL (tlL (tlL (tlL (tlL (tlL l)))))))))))), (hdL (tlL (tlL (tlL (tlL (tlL (tlL (tlL (tlL (tlL (tlL (tlL (tlL l))))))))))))), (hdL (tlL (tlL (tlL (tlL (tlL (tlL (tlL (tlL (tlL (tlL (tlL (tlL (tlL (tlL l))))))))))))))), (hdL (tlL (tlL (tlL (tlL (tlL (tlL (tlL (tlL (tlL (tlL (tlL (tlL (tlL (tlL (tlL l)))))))))))))))), (hdL (tlL (tlL (tlL (tlL (tlL (tlL (tlL (tlL (tlL (tlL (tlL (tlL (tlL (tlL (tlL (tlL l))))))))))))))))), (hdL (tlL (tlL (tlL (tlL (tlL (tlL (tlL (tlL (tlL (tlL (tlL (tlL (tlL (tlL (tlL (tlL (tlL l)))))))))))))))))), (hdL (tlL (tlL (tlL (tlL (tlL (tlL (tlL (tlL (tlL (tlL (tlL (tlL (tlL (tlL (tlL (tlL (tlL (tlL l))))))))))))))))))), (hdL (tlL (tlL (tlL (tlL (tlL (tlL (tlL (tlL (tlL (tlL (tlL (tlL (tlL (tlL (tlL (tlL (tlL (tlL (tlL l)))))))))))))))))))), (hdL (tlL (tlL (tlL (tlL (tlL (tlL (tlL (tlL (tlL (tlL (tlL (tlL (tlL (tlL (tlL (tlL (tlL (tlL (tlL (tlL l))))))))))))))))))))), (hdL (tlL (tlL (tlL (tlL (tlL (tlL (tlL (tlL (tlL (tlL (tlL (tlL (tlL (tlL (tlL (tlL (tlL (tlL (tlL (tlL (tlL l)))))))))))))))))))))), (hdL (tlL (tlL (tlL (tlL (tlL (tlL (tlL (tlL (tlL (tlL (tlL (tlL (tlL (tlL (tlL (tlL (tlL (tlL (tlL (tlL (tlL (tlL l))))))))))))))))))))))), (hdL (tlL (tlL (tlL (tlL (tlL (tlL (tlL (tlL (tlL (tlL (tlL (tlL (tlL (tlL (tlL (tlL (tlL (tlL (tlL (tlL (tlL (tlL (tlL l)))))))))))))))))))))))), (hdL (tlL (tlL (tlL (tlL (tlL (tlL (tlL (tlL (tlL (tlL (tlL (tlL (tlL (tlL (tlL (tlL (tlL (tlL (tlL (tlL (tlL (tlL (tlL (tlL l))))))))))))))))))))))))), (hdL (tlL (tlL (tlL (tlL (tlL (tlL (tlL (tlL (tlL (tlL (tlL (tlL (tlL (tlL (tlL (tlL (tlL (tlL (tlL (tlL (tlL (tlL (tlL (tlL (tlL l))))))))))))))))))))))))))]
noncomputable def viewK : Program := by
  refine' (fun (x : List Stmt) (_ : vRaw PySem.Challenge.pw_on0010_01.main.body = x) => ({ PySem.Challenge.pw_on0010_01 with main := { PySem.Challenge.pw_on0010_01.main with body := x } } : Program)) _ ?h
  case h =>
    dsimp only [vRaw, tlL, hdL, bodyC, PySem.Challenge.pw_on0010_01]
    exact rfl
abbrev addrK : List Nat := [2, 3, 15, 22, 23, 25, 26, 28, 29, 30, 31, 32, 33, 36, 43, 45, 46, 48, 49, 50, 51, 52, 55, 62, 64, 65, 67, 68, 69, 70, 71, 74, 75, 77, 78, 80, 81, 89, 91, 92, 94, 95, 96, 98, 99, 101, 102, 103, 105, 106, 108, 109, 110, 113, 114, 115, 117, 118, 120, 121, 122, 123, 124, 125, 126, 129, 130, 138, 140, 141, 143, 144, 145, 147, 148, 150, 151, 152, 154, 155, 157, 158, 159, 161, 162, 164, 165, 166, 167, 168, 169, 170, 180, 182, 183, 185, 186, 187, 189, 190, 192, 193, 194, 196, 197, 199, 200, 201, 203, 204, 206, 207, 208, 209, 210, 211, 212, 215, 217, 218, 220, 221, 222, 224, 225, 227, 228, 229, 231, 232, 234, 235, 236, 238, 239, 241, 242, 243, 245, 246, 248, 249, 250, 252, 253, 255, 256, 257, 259, 260, 262, 263, 264, 266, 267, 269, 270, 271, 274, 275, 276, 278, 279, 281, 282, 283, 285, 286, 288, 289, 290, 293, 294]
theorem addrK_ok : ∀ P, addrK = (heapK P).map (·.1) := fun _ => by kernel_rfl
noncomputable abbrev hookK : Hook := kmHook heapK addrK addrK_ok [277]
end Mine
end
section
open PySem PySem.W PyProof.Rows



namespace Mine
theorem leftK : LeftO PySem.Challenge.rw_on0010_01.row.prog viewK [Str.ofString "ChanError"] (fun s => xlAt viewK [] s && recOk (RowW.records PySem.Challenge.rw_on0010_01.row.toRowW) s) hookK.obs hookK.val 4488 := by
  intro w
  kernel_rfl
end Mine
end
section
open PySem PySem.W PyProof.Rows



namespace Mine
theorem saidK : OpenLaw.wellSaid PySem.Challenge.rw_on0010_01 = true := by
  kernel_rfl
theorem witnessK : PySem.Challenge.rw_on0010_01.row.promised := by
  w_witness2
end Mine
end
section
open PySem PySem.W PySem.Calls PyProof.Rows


namespace Mine

end Mine
end
section
open PySem PySem.W PySem.Calls PyProof.Rows PySem.SeqAt


namespace Mine

-- keys that are made of ints, texts and tuples of these
mutual
def okD : PyData → Bool
  | .int _ => true
  | .str x => PyData.strOk x
  | .tuple xs => okDs xs
  | _ => false
def okDs : List PyData → Bool
  | [] => true
  | x :: r => okD x && okDs r
end
mutual
def hashD (w : World) : PyData → Int
  | .int i => hashInt i
  | .str x => hashStr w x
  | .tuple xs => reduceHash (Builtin.Tuple.tupleHashOf (hashDs w xs))
  | _ => 0
def hashDs (w : World) : List PyData → List Int
  | [] => []
  | x :: r => hashD w x :: hashDs w r
end
mutual
def drawsD : PyData → Nat
  | .tuple xs => drawsDs xs + 1
  | _ => 1
def drawsDs : List PyData → Nat
  | [] => 0
  | x :: r => drawsD x + drawsDs r
end
mutual
theorem okD_lay : ∀ d : PyData, okD d = true → d.canLay0 = true
  | .int _, _ => rfl
  | .str x, h => h
  | .tuple xs, h => okDs_lay xs h
  | .none, h | .bool _, h | .list _, h | .dict _, h => by cases h
theorem okDs_lay : ∀ xs : List PyData, okDs xs = true → PyData.canLayAll0 xs = true
  | [], _ => rfl
  | x :: r, h => by
    simp only [okDs, Bool.and_eq_true] at h
    simp only [PyData.canLayAll0, okD_lay x h.1, okDs_lay r h.2, Bool.and_self]
end
mutual
theorem okD_fp {h : Heap} : ∀ (d : PyData) (v : Value) (as : List Addr), okD d = true → Reads h v d as → as = []
  | .int _, _, _, _, r => by cases r; rfl
  | .str x, _, _, _, r => by cases r; rfl
  | .tuple xs, _, _, k, r => by cases r with | tuple a b c d => exact okDs_fp xs _ _ k d
  | .none, _, _, k, _ | .bool _, _, _, k, _ | .list _, _, _, k, _ | .dict _, _, _, k, _ => by cases k
theorem okDs_fp {h : Heap} : ∀ (xs : List PyData) (vs : List Value) (as : List Addr), okDs xs = true → ReadsAll h vs xs as → as = []
  | [], _, _, _, r => by cases r; rfl
  | x :: r, _, _, k, q => by
    simp only [okDs, Bool.and_eq_true] at k
    cases q with
    | cons q1 q2 => rw [okD_fp x _ _ k.1 q1, okDs_fp r _ _ k.2 q2]; rfl
end
/-- what tuples stood, stand -/
def TupsStay (h h' : Heap) : Prop := ∀ b o, h.get? b = some o → o.cls = .type "tuple" → (∃ vs n, o.data = .seq vs n) → h'.get? b = some o
theorem TupsStay.of {h h' : Heap} (k : ∀ b o, h.get? b = some o → h'.get? b = some o) : TupsStay h h' := fun b o e _ _ => k b o e
theorem TupsStay.trans {h h' h'' : Heap} (a : TupsStay h h') (b : TupsStay h' h'') : TupsStay h h'' := fun x o e c d => b x o (a x o e c d) c d
mutual
theorem okD_stay {h h' : Heap} (k : TupsStay h h') : ∀ (d : PyData) (v : Value) (as : List Addr), okD d = true → Reads h v d as → Reads h' v d as
  | .int _, _, _, _, r => by cases r; exact .int _ _
  | .str x, _, _, _, r => by cases r; exact .str _ _
  | .tuple xs, _, _, q, r => by cases r with | tuple a b c d => exact .tuple (k _ _ a b ⟨_, _, c⟩) b c (okDs_stay k xs _ _ q d)
  | .none, _, _, k, _ | .bool _, _, _, k, _ | .list _, _, _, k, _ | .dict _, _, _, k, _ => by cases k
theorem okDs_stay {h h' : Heap} (k : TupsStay h h') : ∀ (xs : List PyData) (vs : List Value) (as : List Addr), okDs xs = true → ReadsAll h vs xs as → ReadsAll h' vs xs as
  | [], _, _, _, r => by cases r; exact .nil
  | x :: r, _, _, q, p => by
    simp only [okDs, Bool.and_eq_true] at q
    cases p with
    | cons q1 q2 => exact .cons (okD_stay k x _ _ q.1 q1) (okDs_stay k r _ _ q.2 q2)
end
section
variable {prog : Program} {w : World} {E : Value → Shared → Prop}
mutual
theorem pyHash_data : ∀ (k : PyData) (v : Value) (as : List Addr) (A : Around) (s : Shared) (Q : Int → Shared → Prop), okD k = true → Reads s.heap v k as → A.units + k.depth < cLine →
    Q (hashD w k) { s with toks := s.toks + drawsD k } → wpAny (model prog w) A (pyHash v) Q E s
  | .int i, _, _, A, s, Q, _, x, _, h => by cases x; exact wpAny_pyHash_int h
  | .str y, _, _, A, s, Q, _, x, _, h => by cases x; exact wpAny_pyHash_str h
  | .tuple xs, _, _, A, s, Q, hk, x, hu, h => by
    cases x with
    | @tuple a o vs n _ _ hg hc hd hw =>
      refine pyHash_slot (T := "tuple") ⟨_, hg, hc⟩ F.slot_tuple_hash F.entry_tuple_hash (F.args_tuple_hash_1 _) (beq_builtin_none _) (.inr (by simp only [PyData.depth] at hu; omega)) ?_
      show wpAny _ _ (Builtin.Tuple.tupleItemsOf (.ref a) >>= _) _ _ s
      refine wpAny_bind (wpAny_tupleItemsOf hg hd ?_)
      refine wpAny_bind ?_
      rw [← Array.forIn_toList]
      refine hashLoopD xs vs.toList _ A.in1 s #[] _ hk hw (by simp only [PyData.depth] at hu ⊢; omega) fun b hb => ?_
      show wpAny _ _ (retInt (Builtin.Tuple.tupleHashOf b.toList)) _ _ _
      rw [hb]
      exact wpAny_bind (wpAny_mkInt (wpAny_pure ⟨_, _, rfl, by simpa only [hashD, drawsD, List.nil_append, Array.toList_empty, Nat.add_assoc] using h⟩))
  | .none, _, _, _, _, _, hk, _, _, _ | .bool _, _, _, _, _, _, hk, _, _, _ | .list _, _, _, _, _, _, hk, _, _, _ | .dict _, _, _, _, _, _, hk, _, _, _ => by cases hk
theorem hashLoopD : ∀ (xs : List PyData) (vs : List Value) (as : List Addr) (A : Around) (s : Shared) (b : Array Int) (Q : Array Int → Shared → Prop), okDs xs = true → ReadsAll s.heap vs xs as → A.units + PyData.depthAll xs < cLine →
    (∀ b', b'.toList = b.toList ++ hashDs w xs → Q b' { s with toks := s.toks + drawsDs xs }) →
    wpAny (model prog w) A (forIn vs b fun x r => do let h ← pyHash x; pure PUnit.unit; pure (ForInStep.yield (r.push h))) Q E s
  | [], _, _, A, s, b, Q, _, x, _, h => by cases x; exact wpAny_pure (h b (by simp [hashDs]))
  | k :: xs, _, _, A, s, b, Q, hk, x, hu, h => by
    cases x with
    | cons x1 x2 =>
      simp only [okDs, Bool.and_eq_true, PyData.depthAll] at hk hu
      rw [List.forIn_cons]
      refine wpAny_bind (wpAny_bind (pyHash_data k _ _ A s _ hk.1 x1 (by omega) ?_))
      refine wpAny_bind (wpAny_pure (wpAny_pure ?_))
      exact hashLoopD xs _ _ A _ _ Q hk.2 x2 (by omega) fun b' hb => by
        have := h b' (by simp [hb, hashDs])
        simpa only [drawsDs, Nat.add_assoc] using this
end
mutual
theorem quiet_data : ∀ (k : PyData) (v : Value) (as : List Addr) (n : Nat) (A : Around) (s : Shared) (Q : Bool → Shared → Prop) (E' : Value → Shared → Prop), okD k = true → Reads s.heap v k as → k.depth ≤ n → Q true s → wpAny (model prog w) A (eqIsQuiet n v) Q E' s
  | .int i, _, _, n, A, s, Q, E', _, x, _, h => by cases x; rw [eqIsQuiet_byValue _ rfl]; exact wpAny_pure h
  | .str y, _, _, n, A, s, Q, E', _, x, _, h => by cases x; rw [eqIsQuiet_byValue _ rfl]; exact wpAny_pure h
  | .tuple xs, _, _, 0, A, s, Q, E', hk, x, hn, h => by simp [PyData.depth] at hn
  | .tuple xs, _, _, n + 1, A, s, Q, E', hk, x, hn, h => by
    cases x with
    | @tuple a o vs n' _ _ hg hc hd hw =>
      have hT : s.TypeIs (.ref a) "tuple" := ⟨_, hg, hc⟩
      unfold eqIsQuiet
      refine wpAny_bind (wpAny_specialOf hT F.slot_tuple_eq.lookup ?_)
      show wpAny _ _ (isInstance (.ref a) (.type "tuple") >>= _) _ _ s
      refine wpAny_bind (wpAny_isInstance hT isSubtype_tuple_tuple ?_)
      simp only [Bool.not_true, Bool.false_eq_true, if_false]
      refine wpAny_bind (wpAny_seqItems hg hd ?_)
      refine wpAny_bind ?_
      show wpAny _ _ (forIn vs _ _) _ _ s
      rw [← Array.forIn_toList]
      exact quietLoop xs vs.toList _ n A s _ _ hk hw (by simp only [PyData.depth] at hn; omega) (wpAny_pure h)
  | .none, _, _, _, _, _, _, _, hk, _, _, _ | .bool _, _, _, _, _, _, _, _, hk, _, _, _ | .list _, _, _, _, _, _, _, _, hk, _, _, _ | .dict _, _, _, _, _, _, _, _, hk, _, _, _ => by cases hk
theorem quietLoop : ∀ (xs : List PyData) (vs : List Value) (as : List Addr) (n : Nat) (A : Around) (s : Shared) (Q : Option Bool × Unit → Shared → Prop) (E' : Value → Shared → Prop), okDs xs = true → ReadsAll s.heap vs xs as → PyData.depthAll xs ≤ n →
    Q (none, ()) s →
    wpAny (model prog w) A (forIn vs ((none, ()) : Option Bool × Unit) fun y _ => do
      let q ← eqIsQuiet n y
      if (!q) = true then pure (ForInStep.done (some false, ())) else pure (ForInStep.yield (none, ()))) Q E' s
  | [], _, _, n, A, s, Q, E', _, x, _, h => by cases x; exact wpAny_pure h
  | k :: xs, _, _, n, A, s, Q, E', hk, x, hu, h => by
    cases x with
    | cons x1 x2 =>
      simp only [okDs, Bool.and_eq_true, PyData.depthAll] at hk hu
      rw [List.forIn_cons]
      have hd : k.depth ≤ n := by omega
      refine wpAny_bind ?_
      refine wpAny_bind ?_
      refine quiet_data k _ _ n A s _ _ hk.1 x1 hd ?_
      simp only [Bool.not_true, Bool.false_eq_true, if_false]
      refine wpAny_pure ?_
      exact quietLoop xs _ _ n A s Q E' hk.2 x2 (by omega) h
end
end

/-- the datum that an int stands for is a key: one class of keys for the dicts of places -/
def dataKind (prog : Program) (w : World) (enc : Int → PyData) (hok : ∀ k, okD (enc k) = true) (hdep : ∀ k, (enc k).depth ≤ 3) (hinj : ∀ a b, PyData.eqv (enc a) (enc b) = decide (a = b)) : HeapKind prog w Int where
  is := fun h k a => Reads h (.ref a) (enc k) []
  hash := fun k => hashD w (enc k)
  draws := fun k => drawsD (enc k)
  room := fun A => A.units + 8 < cLine
  inj := fun {h a x y} r1 r2 => by
    have e := SeqAt.Reads.unique _ _ _ _ _ (okD_lay _ (hok x)) r1 r2
    have h1 := hinj x x
    rw [decide_eq_true rfl] at h1
    have h2 := hinj x y
    rw [← e, h1] at h2
    exact of_decide_eq_true h2.symm
  keeps := fun {h h' k a d o es ep} r hd hdd hs => okD_stay (fun b ob e _ hc => by
    by_cases q : b = d
    · subst q
      rw [hd] at e
      cases e
      obtain ⟨vs, n, hx⟩ := hc
      rw [hdd] at hx
      cases hx
    · exact (hs.2 b q).trans e) _ _ _ (hok k) r
  pyHash := fun {A E s k a Q} hu hk h => pyHash_data _ _ _ A s Q (hok k) hk (by have := hdep k; omega) h
  eqBool := fun {A E s x y a b Q} hu hx hy h => by
    have q := SeqAt.eqAt_reads (enc x) (enc y) A s _ _ _ _ hx hy (okD_lay _ (hok x)) (okD_lay _ (hok y)) (by have := hdep x; omega)
    rw [hinj] at q
    exact q prog w E Q h
  quiet := fun {A E s k a Q} hk h => quiet_data _ _ _ 8 A s Q E (hok k) hk (by have := hdep k; omega) h
end Mine
end
section
open PySem PySem.W PySem.Calls PyProof.Rows PySem.SeqAt


namespace Mine

/-- a way of writing ints as keys -/
structure Enc (enc : Int → PyData) : Prop where
  ok : ∀ k, okD (enc k) = true
  dep : ∀ k, (enc k).depth ≤ 3
  inj : ∀ a b, PyData.eqv (enc a) (enc b) = decide (a = b)

theorem okDs_map {α : Type} {f : α → PyData} (h : ∀ k, okD (f k) = true) : ∀ l : List α, okDs (l.map f) = true
  | [] => rfl
  | x :: r => by simp [okDs, h x, okDs_map h r]
theorem depthAll_map {α : Type} {f : α → PyData} {n : Nat} (h : ∀ k, (f k).depth ≤ n) : ∀ l : List α, PyData.depthAll (l.map f) ≤ n
  | [] => Nat.zero_le _
  | x :: r => by simp only [List.map_cons, PyData.depthAll]; have := h x; have := depthAll_map h r; omega
theorem any_enc {enc : Int → PyData} (I : Enc enc) (k : Int) : ∀ ks : List Int, ((ks.map enc).any fun y => PyData.eqv y (enc k)) = ks.contains k
  | [] => rfl
  | x :: r => by
    simp only [List.map_cons, List.any_cons, any_enc I k r, I.inj, List.contains_cons]
    by_cases h : x = k
    · subst h; simp
    · have : ¬ k = x := fun e => h e.symm
      simp [h, this]

/-- a row of who waits -/
abbrev rowE (enc : Int → PyData) (r : Int × Int) : PyData := .tuple [enc r.1, .int r.2]
theorem row_ok {enc : Int → PyData} (I : Enc enc) (r : Int × Int) : okD (rowE enc r) = true := by
  show (okD (enc r.1) && (okD (.int r.2) && okDs [])) = true
  rw [I.ok]; rfl
theorem row_dep {enc : Int → PyData} (I : Enc enc) (r : Int × Int) : (rowE enc r).depth ≤ 4 := by
  have := I.dep r.1
  show max (enc r.1).depth (max 0 0) + 1 ≤ 4
  omega

theorem tups_hide {h₀ h g : Heap} {L : Addr} {S : List (Addr × Obj)} (N : News h₀ L h S) (K : ∀ b o, b ∉ S.map (·.1) → h.get? b = some o → g.get? b = some o) (hS : ∀ q ∈ S, q.2.cls ≠ .type "tuple") : TupsStay h g :=
  fun b o e hc _ => K b o (fun hm => by
    obtain ⟨q, hq, rfl⟩ := List.mem_map.mp hm
    have z := (N q hq).1
    rw [e] at z
    cases z
    exact hS q hq hc) e

section
variable {prog : Program} {w : World} {A : Around} {E : Value → Shared → Prop} {s : Shared} {h₀ : Heap} {L c : Addr} {m : Str → Option Value} {news : List (Addr × Obj)} {enc : Int → PyData} {vs : List Value} {ks : List Int} {x : Value} {k : Int} {n : Nat} {b : Bool} {as bs : List Addr}
theorem notIn_enc {Q : Value → Shared → Prop} (I : Enc enc) (N : News h₀ L s.heap news) (hm : (c, listOf vs.toArray n) ∈ news) (rs : ReadsAll s.heap vs (ks.map enc) as) (rx : Reads s.heap x (enc k) bs) (hb : ks.contains k = b) (hu : A.units + 8 < cLine)
    (h : Q (.bool (!b)) s) : wpAny (model prog w) A (compareOp .NotIn x (.ref c)) Q E s := by
  have hd := depthAll_map I.dep ks
  refine SeqAt.notIn_list_reads (reads_list_at (N.get hm) rfl rfl rs) rx (okDs_lay _ (okDs_map I.ok ks)) (okD_lay _ (I.ok k)) (by omega) ?_
  rw [any_enc I, hb]
  exact h
theorem in_enc {Q : Value → Shared → Prop} (I : Enc enc) (N : News h₀ L s.heap news) (hm : (c, listOf vs.toArray n) ∈ news) (rs : ReadsAll s.heap vs (ks.map enc) as) (rx : Reads s.heap x (enc k) bs) (hb : ks.contains k = b) (hu : A.units + 8 < cLine)
    (h : Q (.bool b) s) : wpAny (model prog w) A (compareOp .In x (.ref c)) Q E s := by
  have hd := depthAll_map I.dep ks
  refine SeqAt.in_list_reads (reads_list_at (N.get hm) rfl rfl rs) rx (okDs_lay _ (okDs_map I.ok ks)) (okD_lay _ (I.ok k)) (by omega) ?_
  rw [any_enc I, hb]
  exact h
end
theorem my_fits {vs : List Value} (h : vs.length ≤ 200) : vs.toArray.size ≤ sizeLine := by
  rw [List.size_toArray, sizeLine_eq]
  omega
theorem reads_length {h : Heap} {vs : List Value} {ds : List PyData} {as : List Addr} (r : ReadsAll h vs ds as) : vs.length = ds.length := SeqAt.ReadsAll.length _ _ _ r
end Mine
end
section
open PySem PySem.W PySem.Calls PyProof.Rows PySem.SeqAt


namespace Mine
section
open Builtin
abbrev txU : Str := Str.ofString "unlock of unlocked mutex"
abbrev txN : Str := Str.ofString "negative WaitGroup counter"
def asciiB (x : Str) : Array UInt8 := x.cps.map (·.toUInt8)
theorem enc_eqU (t u : Tok) : Builtin.«str.encode» ⟨[.str txU t, .str (Str.ofString "ascii") u], []⟩ = (mkBytes (asciiB txU) >>= fun v => ret v) := by kernel_rfl
theorem enc_eqN (t u : Tok) : Builtin.«str.encode» ⟨[.str txN t, .str (Str.ofString "ascii") u], []⟩ = (mkBytes (asciiB txN) >>= fun v => ret v) := by kernel_rfl
end
section
variable {prog : Program} {w : World} {A : Around} {E : Value → Shared → Prop} {s : Shared} {x : Str} {t u : Tok}
theorem noRefS : ∀ a, Value.str x t = .ref a → ∃ o, s.heap.get? a = some o ∧ o.dict = none := fun _ e => nomatch e
theorem method_of {M : Model} {pl : Sem Bool} {Q : Value × List Value → Shared → Prop} {name : Str} {id : String} (v : Value) (hT : s.TypeIs v "str") (slot : Slot "str" name id) (ty : typeOf (.builtin id) = pure (.type "method_descriptor"))
    (hd : ∀ a, v = .ref a → ∃ o, s.heap.get? a = some o ∧ o.dict = none) (h : Q (.builtin id, [v]) s) : wpAny M A (getMethod v name pl) Q E s :=
  getMethod_builtin hT F.plainAttrs_str slot ty hd h
theorem encode_method {M : Model} {pl : Sem Bool} {Q : Value × List Value → Shared → Prop} (h : Q (.builtin "str.encode", [.str x t]) s) : wpAny M A (getMethod (.str x t) "encode" pl) Q E s := by
  with_reducible exact method_of (.str x t) (typeIs_str _ _ _) F.slot_str_encode F.type_str_encode noRefS h
theorem encode_meets {b : Array UInt8} (hb : b.size ≤ 1000) (he : Builtin.«str.encode» ⟨[.str x t, .str (Str.ofString "ascii") u], []⟩ = (mkBytes b >>= fun v => ret v)) :
    Meets (Builtin.«str.encode» ⟨[.str x t, .str (Str.ofString "ascii") u], []⟩) (fun _ R s => R (.ok (.ret (.bytes b s.toks))) { s with toks := s.toks + 1 }) := by
  refine .of_wp fun prog w A R s h => ?_
  rw [he]
  refine wpAny_bind (wpAny_mkBytes ?_ (by rw [sizeLine_eq]; omega))
  exact wpAny_pure ⟨_, rfl, h⟩
theorem encode_call {b : Array UInt8} {Q : Value → Shared → Prop} (hb : b.size ≤ 1000) (he : Builtin.«str.encode» ⟨[.str x t, .str (Str.ofString "ascii") u], []⟩ = (mkBytes b >>= fun v => ret v))
    (h : Q (.bytes b s.toks) { s with toks := s.toks + 1 }) : wpAny (model prog w) A (call (.builtin "str.encode") [.str x t, .str (Str.ofString "ascii") u]) Q E s :=
  call_meets F.slot_str_encode (typeIs_str _ _ _) F.entry_str_encode (F.args_str_encode_2 _ _) (encode_meets hb he) h
theorem encode_callU {Q : Value → Shared → Prop} (h : Q (.bytes (asciiB txU) s.toks) { s with toks := s.toks + 1 }) : wpAny (model prog w) A (call (.builtin "str.encode") [.str txU t, .str (Str.ofString "ascii") u]) Q E s :=
  encode_call (by decide +kernel) (enc_eqU _ _) h
theorem encode_callN {Q : Value → Shared → Prop} (h : Q (.bytes (asciiB txN) s.toks) { s with toks := s.toks + 1 }) : wpAny (model prog w) A (call (.builtin "str.encode") [.str txN t, .str (Str.ofString "ascii") u]) Q E s :=
  encode_call (by decide +kernel) (enc_eqN _ _) h
end

abbrev excObj (C : Addr) (d : Option Addr) (t : Addr) : Obj := { cls := .ref C, dict := d, data := .fields #[.ref t, .none, .none, .none, .bool false, .none] }
section
variable {prog : Program} {w : World} {A : Around} {E : Value → Shared → Prop} {R : Result → Shared → Prop} {h : Heap} {g : Array GenState} {d : Drawn} {t : Nat} {os : OsState}
variable {nm q : Str} {C N fI : Addr} {bs bm bmB : List Value} {hdct : Bool} {sn : List Str} {sub : List Value} {ab : Bool} {col : Option Bool} {dd : Option Addr} {k0 k1 k2 k3 k5 : Option Value} {B newId initId : String}

theorem check_new_own (Fn : ExcBaseFacts B newId initId bmB) (hB : bm.contains (.type B) = true) {M : Model} {rest : List Value} {Q : Unit → Shared → Prop} (hC : h.get? C = some (excClassObj nm q C N bs bm hdct sn sub ab col dd k0 k1 k2 k3 k5 newId))
    (hq : Q () ⟨h, g, d, t, os⟩) : wpAny M A (checkBuiltinCall newId ⟨.ref C :: rest, []⟩) Q E ⟨h, g, d, t, os⟩ := by
  have hcont : (Value.ref C :: bm).contains (.type B) = true := by rw [List.contains_cons, hB, Bool.or_true]
  have hstar := Fn.noStar
  simp only [checkBuiltinCall, Fn.newKind, Fn.newSplit, Fn.newRow]
  repeat (first | refine wpAny_loadPart_at hC ?_ | (refine wpAny_isSubtype_exc hC ?_; rw [hcont]) | refine wpAny_staticBase_exc hC ?_ | refine wpAny_madeBy_exc hC ?_ | simp only [bne_self_eq_false, Bool.false_eq_true, if_false] | wp_step)
  exact hq
theorem exc_new_own (Fn : ExcBaseFacts B newId initId bmB) (hB : bm.contains (.type B) = true) (hA : bm.contains (.type "AttributeError") = false) (hN : bm.contains (.type "NameError") = false) {rest : List Value}
    (hC : h.get? C = some (excClassObj nm q C N bs bm hdct sn sub ab col dd k0 k1 k2 k3 k5 newId))
    (hq : R (.ok (.ret (.ref (h.objs.size + 1)))) ⟨(h.push { cls := .type "tuple", data := .seq rest.toArray }).push (excObj C none h.objs.size), g, d, t, os⟩) (hrest : rest.length ≤ sizeLine := by size_fits) :
    codeAny (model prog w) A (.builtin newId ⟨.ref C :: rest, []⟩) R ⟨h, g, d, t, os⟩ := by
  have hends := Fn.ends
  have hcB : (Value.ref C :: bm).contains (.type B) = true := by rw [List.contains_cons, hB, Bool.or_true]
  have hcA : (Value.ref C :: bm).contains (.type "AttributeError") = false := by rw [List.contains_cons, hA]; rfl
  have hcN : (Value.ref C :: bm).contains (.type "NameError") = false := by rw [List.contains_cons, hN]; rfl
  refine codeAny_builtinAt Fn.entry ?_
  unfold Builtin.«BaseException.__new__»
  refine PySem.wpAt_bind ?_
  show PySem.wpAt _ _ _ (stack >>= _) _ _ _
  refine PySem.wpAt_bind (PySem.wpAt_stack fun p below => PySem.wpAt_of_wpAny ?_)
  wp_walk
  refine PySem.wpAt_of_wpAny ?_
  rw [Fn.owner]
  repeat (first | with_reducible refine wpAny_madeHere_exc Fn.canon hC ?_ | with_reducible refine wpAny_loadPart_at hC ?_ | (with_reducible refine wpAny_isSubtype_exc hC ?_; first | rw [hcB] | rw [hcA] | rw [hcN]) | wp_step)
  show R _ _
  rw [Heap.size_push]
  exact hq

/-- an own exception class is called; it has an own __init__ -/
theorem make_exc (Fn : ExcBaseFacts B newId initId bmB) (hB : bm.contains (.type B) = true) (hA : bm.contains (.type "AttributeError") = false) (hN : bm.contains (.type "NameError") = false) {rest : List Value} {Q : Value → Shared → Prop}
    (hC : h.get? C = some (excClassObj nm q C N bs bm hdct sn sub ab col dd k0 k1 k2 k3 k5 newId))
    (hi : Looks (model prog w) h (typeLookup (.ref C) "__init__") (some (.ref fI))) (hb : ∀ self, Looks (model prog w) h (bindSpecial (.ref fI) self) (.ref fI, [self]))
    (hq : codeAny (model prog w) (A.under (.builtin "type.__call__" ⟨.ref C :: rest, []⟩)) (.call (.ref fI) ⟨.ref (h.objs.size + 1) :: rest, []⟩) (InitBack (h.objs.size + 1) fun r s' => match r with | .ok (.ret v) => Q v s' | .ok _ => False | .error e => E e s')
      ⟨(h.push { cls := .type "tuple", data := .seq rest.toArray }).push (excObj C none h.objs.size), g, d, t, os⟩) (hrest : rest.length ≤ sizeLine := by size_fits) :
    wpAny (model prog w) A (call (.ref C) rest) Q E ⟨h, g, d, t, os⟩ := by
  have f1 := tc_lookup
  have f2 := tc_bind (.ref C)
  have hT : (⟨h, g, d, t, os⟩ : Shared).TypeIs (.ref C) "type" := ⟨_, hC, rfl⟩
  refine wpAny_call (codeAny_of_tree ?_)
  show wpAny _ _ (callAny (.ref C) _) _ _ _
  repeat (any_goals (first | assumption | with_reducible refine wpAny_loadPart_at hC ?_ | wp_step))
  refine ⟨rfl, ?_⟩
  refine codeAny_call_builtin_at (Code.quiet_builtin _ (by decide +kernel)) entry_typeCall (wpAny_check_type_call_sub hC ?_)
  repeat (first | with_reducible refine wpAny_loadPart_at hC ?_ | with_reducible refine wpAny_madeBy_exc hC ?_ | wp_step)
  refine codeAny_call_builtin_code (Code.quiet_builtin _ Fn.quiet) (check_new_own Fn hB hC ?_)
  refine exc_new_own Fn hB hA hN hC ?_ hrest
  show wpAny _ _ _ _ _ _
  have k : ∀ b o, h.get? b = some o → ((h.push { cls := .type "tuple", data := .seq rest.toArray }).push (excObj C none h.objs.size)).get? b = some o := fun b o e => Heap.get?_push_of_some _ (Heap.get?_push_of_some _ e)
  have hC₁ := k _ _ hC
  have hget : ((h.push { cls := .type "tuple", data := .seq rest.toArray }).push (excObj C none h.objs.size)).get? (h.objs.size + 1) = some (excObj C none h.objs.size) := by heap_get
  have hcC : (Value.ref C :: bm).contains (.ref C) = true := by simp
  unfold isInstance
  repeat (first | with_reducible refine wpAny_loadPart_at hget ?_ | (with_reducible refine wpAny_isSubtype_exc hC₁ ?_; rw [hcC]) | wp_step)
  show wpAny _ _ (isSubtype (.ref C) (.ref C)) _ _ _
  refine wpAny_isSubtype_exc hC₁ ?_
  rw [hcC]
  have t1 : Looks (model prog w) ((h.push { cls := .type "tuple", data := .seq rest.toArray }).push (excObj C none h.objs.size)) (typeOf (.ref (h.objs.size + 1))) (.ref C) := (Looks.ld hget).andThen .now
  have i1 := hi.keeps k
  have b1 := (hb (.ref (h.objs.size + 1))).keeps k
  unfold callSpecial? specialOf
  show wpAny _ _ _ _ _ ⟨(h.push { cls := .type "tuple", data := .seq rest.toArray }).push (excObj C none h.objs.size), g, d, t, os⟩
  repeat (first | simp only [Bool.not_true, Bool.false_eq_true, if_false] | with_reducible refine wpAny_call ?_ | lk)
  refine codeAny_mono hq fun r s' z => ?_
  rcases r with e | (v | _ | _ | _) <;> first | exact z | exact z.elim | skip
  obtain ⟨rfl, z⟩ := z
  exact wpAny_pure (wpAny_pure z)
end

section
variable {prog : Program} {w : World} {A : Around} {E : Value → Shared → Prop} {s : Shared} {K : Frag} {h₀ : Heap} {L : Addr} {m : Str → Option Value} {news : List (Addr × Obj)}
variable {nm q : Str} {C N fI : Addr} {bs bm : List Value} {hdct : Bool} {sn : List Str} {sub : List Value} {ab : Bool} {col : Option Bool} {dd : Option Addr} {k0 k1 k2 k3 k5 : Option Value}
abbrev tupObj (vs : List Value) : Obj := { cls := .type "tuple", data := .seq vs.toArray }
theorem call_excK {rest : List Value} {Q : Value → Shared → Prop} (F : Fr h₀ L s.heap m) (N' : News h₀ L s.heap news) (X₀ : K.In h₀)
    (hC : K.lookup C = some (excClassObj nm q C N bs bm hdct sn sub ab col dd k0 k1 k2 k3 k5 "Exception.__new__")) (hB : bm.contains (.type "Exception") = true) (hA : bm.contains (.type "AttributeError") = false) (hN : bm.contains (.type "NameError") = false)
    (hi : findIn K (.ref C) "__init__" = some (some (.ref fI))) (hf : isFn K (.ref fI) = true) (hrest : rest.length ≤ 1000)
    (h : ∀ e t h', Fr h₀ L h' m → News h₀ L h' ((e, excObj C none t) :: (t, tupObj rest) :: news) → (∀ p ∈ news, p.1 < t) → t < e →
      codeAny (model prog w) (A.under (.builtin "type.__call__" ⟨.ref C :: rest, []⟩)) (.call (.ref fI) ⟨.ref e :: rest, []⟩) (InitBack e fun r s' => match r with | .ok (.ret v) => Q v s' | .ok _ => False | .error e => E e s') { s with heap := h' }) :
    wpAny (model prog w) A (call (.ref C) rest) Q E s := by
  obtain ⟨hh, g, d, t, os⟩ := s
  have X := X₀.keeps F.keep
  refine make_exc (fI := fI) PySem.F.excBase_Exception hB hA hN (X _ _ hC) (looks_findIn X hi) (fun self => bind_fn X self (beq_iff_eq.mp hf)) (h _ hh.objs.size _ ((F.push _).push _) ?_ (fun p hp => Heap.lt_size (N' p hp).1) (Nat.lt_succ_self _)) (by rw [sizeLine_eq]; omega)
  have z := (N'.push F (tupObj rest)).push (F.push _) (excObj C none hh.objs.size)
  rwa [Heap.size_push] at z
end

theorem meta_Exception : typeOf (.type "Exception") = pure (.type "type") := by kernel_rfl

section
variable {prog : Program} {w : World} {A : Around} {E : Value → Shared → Prop} {h : Heap} {g : Array GenState} {d : Drawn} {t : Nat} {os : OsState}
variable {nm q : Str} {C N : Addr} {bs bm bmB : List Value} {hdct : Bool} {sn : List Str} {sub : List Value} {ab : Bool} {col : Option Bool} {dd : Option Addr} {k0 k1 k2 k3 k5 : Option Value} {B nid initId newId : String}
theorem check_init_own (F : ExcBaseFacts B nid initId bmB) (hB : bm.contains (.type B) = true) {M : Model} {e : Addr} {oe : Obj} {rest : List Value} {Q : Unit → Shared → Prop}
    (hC : h.get? C = some (excClassObj nm q C N bs bm hdct sn sub ab col dd k0 k1 k2 k3 k5 newId)) (he : h.get? e = some oe) (hcls : oe.cls = .ref C) (hq : Q () ⟨h, g, d, t, os⟩) :
    wpAny M A (checkBuiltinCall initId ⟨.ref e :: rest, []⟩) Q E ⟨h, g, d, t, os⟩ := by
  have hcB : (Value.ref C :: bm).contains (.type B) = true := by rw [List.contains_cons, hB, Bool.or_true]
  have hshort := F.noStar
  simp only [checkBuiltinCall, F.initKind, F.initSplit, F.initRow]
  repeat (first | (with_reducible refine wpAny_loadPart_at he ?_; rw [hcls]) | with_reducible refine wpAny_loadPart_at hC ?_ | (with_reducible refine wpAny_isSubtype_exc hC ?_; rw [hcB]) | wp_step)
  refine wpAny_onRaise ?_
  rw [show ∀ (a b : String) (n : Nat), Bind.check ⟨.positional, "*", B, .self, [⟨"args", .varPos, false⟩]⟩ a b n (List.map (fun x => x.fst) ({ pos := Value.ref e :: rest } : Args).kw) = pure () from
    fun a b n => check_star_args _ _ _ _ _ _]
  exact wpAny_pure hq
theorem exc_init {e t₀ : Addr} {d₀ : Option Addr} {v : Value} {Q : Value → Shared → Prop} (F : ExcBaseFacts B nid initId bmB) (hB : bm.contains (.type B) = true)
    (hC : h.get? C = some (excClassObj nm q C N bs bm hdct sn sub ab col dd k0 k1 k2 k3 k5 newId)) (he : h.get? e = some (excObj C d₀ t₀))
    (hq : ∀ h', h'.objs.size = h.objs.size + 1 → Heap.SameBut e (h.push (tupObj [v])) h' → h'.get? e = some (excObj C d₀ h.objs.size) → Q .none ⟨h', g, d, t, os⟩) :
    wpAny (model prog w) A (call (.builtin initId) [.ref e, v]) Q E ⟨h, g, d, t, os⟩ := by
  refine wpAny_call (codeAny_call_builtin F.init.plain F.initEntry (check_init_own F hB hC he rfl ?_))
  have he' := Heap.get?_push_of_some (tupObj [v]) he
  unfold Builtin.«BaseException.__init__»
  wp_walk
  exact hq _ (by rw [Heap.size_after_update, Heap.size_push]) (Heap.SameBut.update ..) (Heap.get?_update_self _ he' rfl)
theorem exc_initK {s : Shared} {K : Frag} {h₀ : Heap} {L e t₀ : Addr} {m : Str → Option Value} {news : List (Addr × Obj)} {g : Obj → List (Addr × Obj)} {d₀ : Option Addr} {v : Value} {Q : Value → Shared → Prop}
    (Fr₀ : Fr h₀ L s.heap m) (N' : News h₀ L s.heap news) (X₀ : K.In h₀)
    (hC : K.lookup C = some (excClassObj nm q C N bs bm hdct sn sub ab col dd k0 k1 k2 k3 k5 "Exception.__new__")) (hB : bm.contains (.type "Exception") = true) (U : UpdF e (excObj C d₀ t₀) news g)
    (hq : ∀ t h', Fr h₀ L h' m → News h₀ L h' ((t, tupObj [v]) :: g (excObj C d₀ t)) → (∀ p ∈ news, p.1 < t) → Q .none { s with heap := h' }) :
    wpAny (model prog w) A (call (.builtin "Exception.__init__") [.ref e, v]) Q E s := by
  obtain ⟨own, rest, rfl, hg, h1, h2⟩ := U.split
  have hmem := N' (e, excObj C d₀ t₀) (List.mem_append_right _ (.head _))
  obtain ⟨hh, gg, d, t, os⟩ := s
  refine exc_init PySem.F.excBase_Exception hB (X₀.keeps Fr₀.keep _ _ hC) hmem.1 fun h' hsz hs he => ?_
  have Fp := Fr₀.push (tupObj [v])
  have Np := N'.push Fr₀ (tupObj [v])
  have hmp := Np (e, excObj C d₀ t₀) (List.mem_cons_of_mem _ (List.mem_append_right _ (.head _)))
  refine hq hh.objs.size h' (Fp.change hs hmem.2.1 hmem.2.2) ?_ (fun p hp => Heap.lt_size (N' p hp).1)
  rw [hg]
  refine News.setAt (own := (hh.objs.size, tupObj [v]) :: own) (rest := rest) (o := excObj C d₀ t₀) Np ?_ h2 hs he
  intro p hp
  rcases List.mem_cons.mp hp with rfl | hp
  · exact Nat.ne_of_gt (Heap.lt_size hmem.1)
  · exact h1 p hp
end

def excTail : List Value → Bool
  | [.type a, .type b, .type c] => a == "Exception" && b == "BaseException" && c == "object"
  | .ref _ :: r => excTail r
  | _ => false
theorem exc_passes (self : Value) : refuseLoop self "__setattr__" [.type "Exception", .type "BaseException", .type "object"] = pure () := by
  kernel_rfl
theorem refuse_exc (self : Value) : ∀ {l : List Value}, excTail l = true → refuseLoop self "__setattr__" l = pure ()
  | [.type a, .type b, .type c], e => by
    simp only [excTail, Bool.and_eq_true, beq_iff_eq] at e
    obtain ⟨⟨rfl, rfl⟩, rfl⟩ := e
    exact exc_passes self
  | .ref c :: r, e => by
    rw [refuseLoop_ref]
    exact refuse_exc self (by
      rcases r with _ | ⟨x, _ | ⟨y, _ | ⟨z, t⟩⟩⟩ <;> first | exact e | cases e)
theorem exc_has : ∀ {l : List Value}, excTail l = true → l.contains (.type "object") = true
  | [.type a, .type b, .type c], e => by
    simp only [excTail, Bool.and_eq_true, beq_iff_eq] at e
    obtain ⟨⟨rfl, rfl⟩, rfl⟩ := e
    decide
  | .ref c :: r, e => by
    rw [List.contains_cons, exc_has (l := r) (by rcases r with _ | ⟨x, _ | ⟨y, _ | ⟨z, t⟩⟩⟩ <;> first | exact e | cases e), Bool.or_true]
section
open Builtin Builtin.ObjectAttr
def excOver (K : Frag) (C : Addr) : Bool := (clsIn K C).any fun cd => excTail cd.mro
section
variable {prog : Program} {w : World} {A : Around} {E : Value → Shared → Prop} {R : Result → Shared → Prop} {s : Shared} {K : Frag} {x C L : Addr} {h₀ : Heap} {m : Str → Option Value} {news news' : List (Addr × Obj)} {es es' : List DictEntry} {n n' : Nat} {name : Str} {v : Value}
theorem osaE_open {ox : Obj} {od : Option Obj} {tk : Tok} {r : Option Value} (X : K.In s.heap) (I : InstAt s.heap x ox C od) (hp : excOver K C = true) (ht : takerIn K C name = some r)
    (h : ∀ b, wpAny (model prog w) A.in1 (match r with | some a => setByDescriptor a (.ref x) v | none => storeInOwnDict (.ref x) (.ref C) (.str name tk) name v b)
      (fun fin s' => match fin with | .done f => R (.ok f) s' | .again c' => c'.quiet = true ∧ codeAny (model prog w) A c' R s') (fun e s' => R (.error e) s') s) :
    codeAny (model prog w) A (.call (.builtin "object.__setattr__") ⟨[.ref x, .str name tk, v], []⟩) R s := by
  have SF := PySem.F.store_object
  obtain ⟨cd, hc, ho⟩ := any_some hp
  have ne : cd.mro.isEmpty = false := by cases q : cd.mro with | nil => rw [q] at ho; cases ho | cons _ _ => rfl
  have sub : Looks (model prog w) s.heap (isInstance (.ref x) (.type "object")) true := I.type.andThen (looks_mroIn X (by unfold mroIn; rw [hc, Option.bind_some, if_neg (by rw [ne]; decide), exc_has ho]))
  refine codeAny_call_builtin SF.slot.plain SF.entry (@check_slot (model prog w) _ _ s "object.__setattr__" "object" "__setattr__" (.ref x) [.str name tk, v] [] _ SF.kind SF.split sub (SF.args (.ref x) (.str name tk) v) ?_)
  obtain ⟨attr, ha, hr⟩ := Option.bind_eq_some_iff.mp ht
  have hm : Looks (model prog w) s.heap (mroOf (.ref C)) cd.mro := (looks_clsIn X hc).andThen .now
  have L3 : Looks (model prog w) s.heap (storeTaker? attr) r := by
    cases attr with
    | none => cases hr; exact .now
    | some a =>
      obtain ⟨b, hb, rfl⟩ := Option.map_eq_some_iff.mp hr
      refine (looks_takesIn X hb).andThen ?_
      cases b <;> exact .now
  rw [osa_eq, refuse_eq]
  refine wpAny_bind (wpAny_bind (I.type.here (wpAny_bind (hm.here ?_))))
  rw [refuse_exc _ ho]
  refine wpAny_pure (wpAny_bind (I.type.here (wpAny_bind ((looks_findIn X ha).here (wpAny_bind (L3.here ?_))))))
  exact h _

theorem osaE_dict {ox od od' : Obj} {dx : Addr} {tk : Tok} {pre post : List (Addr × Obj)} {es : List DictEntry} {n : Nat} (F : Fr h₀ L s.heap m) (N : News h₀ L s.heap (pre ++ (dx, od) :: post)) (X : K.In s.heap)
    (I : InstAt s.heap x ox C (some od)) (hd : ox.dict = some dx) (hp : excOver K C = true) (ht : takerIn K C name = some none) (hh : (clsIn K C).any (·.hasDict) = true)
    (hl : (lookIn name od).isSome = true) (h1 : ∀ p ∈ pre, p.1 ≠ dx) (h2 : ∀ p ∈ post, p.1 ≠ dx)
    (e : Obj.putName name (PyData.keyHash w.params name) (.str name s.toks) v od = od') (e' : od'.data = .dict es.toArray n) (hz : es.length ≤ 1000)
    (h : ∀ h', Fr h₀ L h' m → News h₀ L h' (pre ++ (dx, od') :: post) → R (.ok (.ret .none)) { s with heap := h', toks := s.toks + 1 }) :
    codeAny (model prog w) A (.call (.builtin "object.__setattr__") ⟨[.ref x, .str name tk, v], []⟩) R s := by
  refine osaE_open X I hp ht fun b => ?_
  obtain ⟨cd, hc, hd'⟩ := any_some hh
  obtain ⟨U1, U2⟩ := news_upd (f := Obj.putName name (PyData.keyHash w.params name) (.str name s.toks) v) F N h1 h2 e (by obtain ⟨_, _, dd, _⟩ := od'; cases e'; rfl)
  have D := (N (dx, od) (by simp)).1
  have D' := (U2 (dx, od') (by simp)).1
  obtain ⟨hx, hcl, hn, -⟩ := I
  obtain ⟨oc, odi, oda, osl⟩ := ox
  dsimp only at hcl hd
  subst hcl hd
  refine wpAny_bind (wpAny_pure (wpAny_bind (wpAny_bind (wpAny_loadPart hx (wpAny_bind ((looks_clsIn X hc).here ?_))))))
  rw [hd']
  refine wpAny_pure (a := some dx) (wpAny_bind (wpAny_pure (wpAny_bind ?_)))
  unfold nsSet
  refine wpAny_bind (wpAny_bind (wpAny_askSetting (wpAny_pure (wpAny_bind (wpAny_mkText (wpAny_bind (wpAny_loadPart D ?_)))))))
  unfold lookIn at hl
  split at hl
  · rename_i es₀ n₀ q
    rw [q]
    dsimp only
    have c : (!es₀.any (·.key.isStr name) && es₀.any (·.refKey)) = false := by
      rw [← Array.any_toList, ← Array.any_toList]
      split at hl
      · rename_i en he
        rw [List.any_eq_true.mpr ⟨en, List.mem_of_find?_eq_some he, List.find?_some he⟩]; rfl
      · split at hl
        · cases hl
        · rename_i z; rw [Bool.not_eq_true] at z; rw [z, Bool.and_false]
    rw [aRefKeyMayBeTheName_at, c]
    refine wpAny_updatePart D ?_
    refine wpAny_bind (wpAny_lookBehind D' (by rw [e']; exact pastItsLine_dict (by rw [List.size_toArray, sizeLine_eq]; omega)) ?_)
    exact wpAny_pure (h _ U1 U2)
  · cases hl
theorem setE_dict {dx t : Addr} {Q : Unit → Shared → Prop} (F : Fr h₀ L s.heap m) (X₀ : K.In h₀) (N : News h₀ L s.heap news) (I : InstAt s.heap x (excObj C (some dx) t) C (some (dictOf es n)))
    (hs : findIn K (.ref C) "__setattr__" = some (some (.builtin "object.__setattr__"))) (hp : excOver K C = true) (ht : takerIn K C name = some none) (hh : hasDictIn K C = true) (hl : (getL name es).isSome = true)
    (e : (putL name (PyData.keyHash w.params name) (.str name (s.toks + 1)) v es, putN name es n) = (es', n')) (U : Upd dx (dictOf es n) (dictOf es' n') news news') (hz : es'.length ≤ 1000)
    (h : ∀ h', Fr h₀ L h' m → News h₀ L h' news' → Q () { s with heap := h', toks := s.toks + 2 }) :
    wpAny (model prog w) A (setAttr (.ref x) name v) Q E s := by
  obtain ⟨pre, post, rfl, rfl, a, b⟩ := U.split
  obtain ⟨e1, e2⟩ := Prod.mk.inj e
  exact set_plain (X₀.keeps F.keep) I hs (osaE_dict (s := { s with toks := s.toks + 1 }) F N (X₀.keeps F.keep) I rfl hp ht hh hl a b (by rw [putName_dict, e1, e2]) rfl hz fun h' F' N' => h h' F' N')
theorem osaE_new {t : Addr} {tk : Tok} {g : Obj → List (Addr × Obj)} (F : Fr h₀ L s.heap m) (N : News h₀ L s.heap news) (X : K.In s.heap)
    (U : UpdF x (excObj C none t) news g) (hp : excOver K C = true) (ht : takerIn K C name = some none) (hh : (clsIn K C).any (·.hasDict) = true)
    (h : ∀ d h', Fr h₀ L h' m → News h₀ L h' ((d, dictOf [⟨PyData.keyHash w.params name, .str name s.toks, v⟩] 1) :: g (excObj C (some d) t)) → (∀ p ∈ news, p.1 < d) → R (.ok (.ret .none)) { s with heap := h', toks := s.toks + 1 }) :
    codeAny (model prog w) A (.call (.builtin "object.__setattr__") ⟨[.ref x, .str name tk, v], []⟩) R s := by
  obtain ⟨own, rest, rfl, hg, h1, h2⟩ := U.split
  have hmem := N (x, excObj C none t) (List.mem_append_right _ (.head _))
  have hx := hmem.1
  refine osaE_open (od := none) (ox := excObj C none t) X ⟨hx, rfl, rfl, trivial⟩ hp ht fun b => ?_
  obtain ⟨cd, hc, hd'⟩ := any_some hh
  obtain ⟨hh, gg, d, tt, os⟩ := s
  have Fp := F.push emptyDict
  have Np := N.push F emptyDict
  have k1 : ∀ p ∈ (hh.objs.size, emptyDict) :: own, p.1 ≠ x := fun p hp => by
    rcases List.mem_cons.mp hp with rfl | hp
    · exact Nat.ne_of_gt (Heap.lt_size hx)
    · exact h1 p hp
  obtain ⟨V1, V2⟩ := news_upd (pre := (hh.objs.size, emptyDict) :: own) (post := rest) (d := x) (o := excObj C none t) (f := fun o => { o with dict := some hh.objs.size }) (o' := excObj C (some hh.objs.size) t) Fp Np k1 h2 rfl rfl
  have k2 : ∀ p ∈ own ++ (x, excObj C (some hh.objs.size) t) :: rest, p.1 ≠ hh.objs.size := fun p hp => by
    have : ∃ o, (p.1, o) ∈ own ++ (x, excObj C none t) :: rest := by
      rcases List.mem_append.mp hp with hp | hp
      · exact ⟨_, List.mem_append_left _ hp⟩
      · rcases List.mem_cons.mp hp with rfl | hp
        · exact ⟨_, List.mem_append_right _ (.head _)⟩
        · exact ⟨_, List.mem_append_right _ (.tail _ hp)⟩
    obtain ⟨o, ho⟩ := this
    exact Nat.ne_of_lt (Heap.lt_size (N _ ho).1)
  obtain ⟨U1, U2⟩ := news_upd (pre := []) (post := own ++ (x, excObj C (some hh.objs.size) t) :: rest) (d := hh.objs.size) (o := emptyDict) (f := Obj.putName name (PyData.keyHash w.params name) (.str name tt) v)
    (o' := dictOf [⟨PyData.keyHash w.params name, .str name tt, v⟩] 1) V1 V2 (fun _ h => nomatch h) k2 (putName_dict name _ _ v [] 0) rfl
  have D := (V2 (hh.objs.size, emptyDict) (.head _)).1
  have D' := (U2 (hh.objs.size, dictOf [⟨PyData.keyHash w.params name, .str name tt, v⟩] 1) (.head _)).1
  have hxp := Heap.get?_push_of_some emptyDict hx
  refine wpAny_bind (wpAny_pure (wpAny_bind (wpAny_bind (wpAny_loadPart hx (wpAny_bind ((looks_clsIn X hc).here ?_))))))
  rw [hd']
  refine wpAny_bind (wpAny_alloc ?_)
  refine wpAny_bind (wpAny_update hxp ?_)
  refine wpAny_pure (a := some hh.objs.size) (wpAny_bind (wpAny_pure (wpAny_bind ?_)))
  unfold nsSet
  refine wpAny_bind (wpAny_bind (wpAny_askSetting (wpAny_pure (wpAny_bind (wpAny_mkText (wpAny_bind (wpAny_loadPart D ?_)))))))
  dsimp only
  have c : (!(#[] : Array DictEntry).any (·.key.isStr name) && (#[] : Array DictEntry).any (·.refKey)) = false := by simp
  rw [aRefKeyMayBeTheName_at, c]
  refine wpAny_updatePart D ?_
  refine wpAny_bind (wpAny_lookBehind D' (by exact pastItsLine_dict (by rw [List.size_toArray, sizeLine_eq]; simp)) ?_)
  refine wpAny_pure (h _ _ U1 ?_ fun p hp => Heap.lt_size (N p hp).1)
  rw [hg]
  exact U2
theorem setE_new {t : Addr} {g : Obj → List (Addr × Obj)} {Q : Unit → Shared → Prop} (F : Fr h₀ L s.heap m) (X₀ : K.In h₀) (N : News h₀ L s.heap news) (U : UpdF x (excObj C none t) news g)
    (hs : findIn K (.ref C) "__setattr__" = some (some (.builtin "object.__setattr__"))) (hp : excOver K C = true) (ht : takerIn K C name = some none) (hh : hasDictIn K C = true)
    (h : ∀ d h', Fr h₀ L h' m → News h₀ L h' ((d, dictOf [⟨PyData.keyHash w.params name, .str name (s.toks + 1), v⟩] 1) :: g (excObj C (some d) t)) → (∀ p ∈ news, p.1 < d) → Q () { s with heap := h', toks := s.toks + 2 }) :
    wpAny (model prog w) A (setAttr (.ref x) name v) Q E s := by
  have U' := U
  obtain ⟨own, rest, e1, hg, h1, h2⟩ := U.split
  have hx := (N (x, excObj C none t) (e1 ▸ List.mem_append_right _ (.head _))).1
  exact set_plain (od := none) (ox := excObj C none t) (X₀.keeps F.keep) ⟨hx, rfl, rfl, trivial⟩ hs (osaE_new (s := { s with toks := s.toks + 1 }) F N (X₀.keeps F.keep) U' hp ht hh fun d h' F' N' l => h d h' F' N' l)
theorem excOver_of {cd : ClassData} (hc : clsIn K C = some cd) (hp : excTail cd.mro = true) : excOver K C = true := by
  unfold excOver
  rw [hc]
  exact hp
theorem instE {h : Heap} {dx t : Addr} {od : Obj} (N : News h₀ L h news) (h1 : (x, excObj C (some dx) t) ∈ news) (h2 : (dx, od) ∈ news) : InstAt h x (excObj C (some dx) t) C (some od) := ⟨(N _ h1).1, rfl, rfl, (N _ h2).1⟩
end
end
end Mine
end
section
open PySem PySem.W PySem.Calls PyProof.Rows PySem.SeqAt


namespace Mine
section
variable {M : Model} {A : Around} {E : Value → Shared → Prop} {env : Env}
variable {nm q : Str} {C N : Addr} {bs bm : List Value} {hdct : Bool} {sn : List Str} {sub : List Value} {ab : Bool} {col : Option Bool} {dd : Option Addr} {k0 k1 k2 k3 k5 : Option Value} {newId : String}
theorem raise_own {s : Shared} {x : Sem Value} {Q : Flow → Shared → Prop} (hh : A.handled = none)
    (h : wpAny M A x (fun v s₁ => ∃ C nm q N bs bm hdct sn sub ab col dd k0 k1 k2 k3 k5 newId e d t, v = .ref e ∧ List.contains bm (.type "BaseException") = true ∧ s₁.heap.get? C = some (excClassObj nm q C N bs bm hdct sn sub ab col dd k0 k1 k2 k3 k5 newId) ∧
      s₁.heap.get? e = some (excObj C d t) ∧ E (.ref e) s₁) E s) :
    wpAny M A (raiseStmt env (some x) none) Q E s := by
  unfold raiseStmt
  refine wpAny_bind (wpAny_mono h (fun v s₁ h₁ => ?_) fun _ _ x => x)
  obtain ⟨C, nm, q, N, bs, bm, hdct, sn, sub, ab, col, dd, k0, k1, k2, k3, k5, newId, e, d, t, rfl, hbase, hC, he, hE⟩ := h₁
  have hcB : (Value.ref C :: bm).contains (.type "BaseException") = true := by rw [List.contains_cons, hbase, Bool.or_true]
  obtain ⟨hp, g, dr, tk, os⟩ := s₁
  repeat (first | with_reducible refine wpAny_loadPart_at he ?_ | with_reducible refine wpAny_loadPart_at hC ?_ | (with_reducible refine wpAny_isSubtype_exc hC ?_; rw [hcB]) | wp_step)
  exact wpAny_raiseNew_none hh hE
def RaisableE (E : Value → Shared → Prop) (v : Value) (s₁ : Shared) : Prop := ∃ C nm q N bs bm hdct sn sub ab col dd k0 k1 k2 k3 k5 newId e d t, v = .ref e ∧ List.contains bm (.type "BaseException") = true ∧ s₁.heap.get? C = some (excClassObj nm q C N bs bm hdct sn sub ab col dd k0 k1 k2 k3 k5 newId) ∧
      s₁.heap.get? e = some (excObj C d t) ∧ E (.ref e) s₁
theorem Raise_own {e : Expr} {pos : Pos} {s : Shared} {Q : Flow → Shared → Prop} (hh : A.handled = none)
    (h : wpAny M A (eval e env) (RaisableE E) E s) : wpAny M A (exec (.Raise (some e) none pos) env) Q E s := by
  show wpAny M A (do standAt pos; raiseStmt env (some (do let v ← eval e env; standAt pos; pure v)) none) Q E s
  refine wpAny_bind (wpAny_standAt (raise_own hh ?_))
  refine wpAny_bind (wpAny_mono h (fun v s₁ h₁ => wpAny_bind (wpAny_standAt (wpAny_pure ?_))) fun _ _ x => x)
  exact h₁
theorem raisableE {K : Frag} {h₀ : Heap} {L e t : Addr} {m : Str → Option Value} {news : List (Addr × Obj)} {s : Shared} {d : Option Addr} (F : Fr h₀ L s.heap m) (X₀ : K.In h₀) (N' : News h₀ L s.heap news) (he : (e, excObj C d t) ∈ news)
    (hC : K.lookup C = some (excClassObj nm q C N bs bm hdct sn sub ab col dd k0 k1 k2 k3 k5 newId)) (hb : bm.contains (.type "BaseException") = true) (h : E (.ref e) s) : RaisableE E (.ref e) s :=
  ⟨C, nm, q, N, bs, bm, hdct, sn, sub, ab, col, dd, k0, k1, k2, k3, k5, newId, e, d, t, rfl, hb, X₀.keeps F.keep _ _ hC, (N' _ he).1, h⟩
end
end Mine
end
section
open PySem PySem.W PySem.Calls PyProof.Rows PySem.SeqAt PyProof



namespace Mine

/-- trees that never touch where an object's dict lies -/
inductive Safe {α : Type} : Sem α → Prop
  | pure (a : α) : Safe (.pure a)
  | raise (e : Value) : Safe (.raise e)
  | unsupported (x : String) : Safe (.unsupported x)
  | finish (e : Ending) : Safe (.finish e)
  | rule (t : String) (k : Unit → Sem α) (h : Safe (k ())) : Safe (.rule t k)
  | at (p : Pos) (k : Unit → Sem α) (h : Safe (k ())) : Safe (.at p k)
  | load (a : Addr) (p : Option Value) (k : Obj → Sem α) (h : ∀ o, Safe (k o)) : Safe (.load a p k)
  | update (a : Addr) (p : Option Value) (f : Obj → Obj) (k : Unit → Sem α) (hf : ∀ o : Obj, (f o).dict = o.dict ∧ (f o).isFreed = o.isFreed) (h : Safe (k ())) : Safe (.update a p f k)
  | alloc (o : Obj) (k : Addr → Sem α) (h : ∀ a, Safe (k a)) : Safe (.alloc o k)
  | stack (k : List (Code × Pos) → Sem α) (h : ∀ l, Safe (k l)) : Safe (.stack k)
  | ask (k : Setting → Sem α) (h : ∀ x, Safe (k x)) : Safe (.ask k)
theorem safe_bind {α β : Type} {f : α → Sem β} (hf : ∀ a, Safe (f a)) {m : Sem α} (h : Safe m) : Safe (m >>= f) := by
  induction h with
  | pure a => exact hf a
  | raise e => exact .raise e
  | unsupported x => exact .unsupported x
  | finish e => exact .finish e
  | rule t k _ ih => exact .rule t _ ih
  | «at» p k _ ih => exact .at p _ ih
  | load a p k _ ih => exact .load a p _ ih
  | update a p g k hg _ ih => exact .update a p g _ hg ih
  | alloc o k _ ih => exact .alloc o _ ih
  | stack k _ ih => exact .stack _ ih
  | ask k _ ih => exact .ask _ ih
theorem safe_ite {α : Type} {c : Prop} [Decidable c] {a b : Sem α} (ha : Safe a) (hb : Safe b) : Safe (if c then a else b) := by
  split
  · exact ha
  · exact hb

/-- every object stands yet, its dict where it lay -/
def Kept (h h' : Heap) : Prop := ∀ b o, h.get? b = some o → ∃ o', h'.get? b = some o' ∧ o'.dict = o.dict
theorem Kept.refl (h : Heap) : Kept h h := fun _ o e => ⟨o, e, rfl⟩
theorem Kept.trans {h₁ h₂ h₃ : Heap} (x : Kept h₁ h₂) (y : Kept h₂ h₃) : Kept h₁ h₃ := fun b o e =>
  let ⟨o', e', d⟩ := x b o e; let ⟨o'', e'', d'⟩ := y b o' e'; ⟨o'', e'', d'.trans d⟩
theorem Kept.of {h h' : Heap} (k : ∀ b o, h.get? b = some o → h'.get? b = some o) : Kept h h' := fun b o e => ⟨o, k b o e, rfl⟩
theorem Kept.update {h : Heap} {a : Addr} {f : Obj → Obj} (hf : ∀ o : Obj, (f o).dict = o.dict ∧ (f o).isFreed = o.isFreed) : Kept h (h.update a f) := fun b o e => by
  by_cases q : b = a
  · subst q
    exact ⟨f o, Heap.get?_update_self _ e (by rw [(hf o).2]; exact (Heap.get?_some_iff.mp e).2), (hf o).1⟩
  · exact ⟨o, (Heap.get?_update_other h f (Ne.symm q)).trans e, rfl⟩

open PySem.Sem in
theorem safe_wp {α : Type} {M : Model} {Γ : Ctx} {h₀ : Heap} {Q : α → Pos → Shared → Prop} {E : Value → Pos → Shared → Prop} {t : Sem α} (z : Safe t) : ∀ (p : Pos) (s : Shared), Kept h₀ s.heap → wp M Γ t Q E p s →
    wp M Γ t (fun a p' s' => Q a p' s' ∧ Kept h₀ s'.heap) (fun e p' s' => E e p' s' ∧ Kept h₀ s'.heap) p s := by
  induction z with
  | pure a => intro p s k h; rw [wp] at h ⊢; exact ⟨h, k⟩
  | raise e => intro p s k h; rw [wp] at h ⊢; exact ⟨h, k⟩
  | unsupported x => intro p s k h; rw [wp] at h; exact h.elim
  | finish e => intro p s k h; rw [wp] at h; exact h.elim
  | rule t f _ ih => intro p s k h; rw [wp] at h ⊢; exact ih p s k h
  | «at» p' f _ ih => intro p s k h; rw [wp] at h ⊢; exact ih p' s k h
  | load a _ f _ ih =>
    intro p s k h
    rw [wp] at h ⊢
    obtain ⟨o, ho, h⟩ := h
    exact ⟨o, ho, ih o p s k h⟩
  | update a _ g f hg _ ih =>
    intro p s k h
    rw [wp] at h ⊢
    exact ⟨h.1, ih p _ (k.trans (Kept.update hg)) h.2⟩
  | alloc o f _ ih =>
    intro p s k h
    rw [wp] at h ⊢
    exact ih _ p _ (k.trans (Kept.of fun b ob e => Heap.get?_push_of_some _ e)) h
  | stack f _ ih => intro p s k h; rw [wp] at h ⊢; exact ih _ p s k h
  | ask f _ ih => intro p s k h; rw [wp] at h ⊢; exact ih _ p s k h
theorem wpAny_kept {α : Type} {M : Model} {A : Around} {t : Sem α} {Q : α → Shared → Prop} {E : Value → Shared → Prop} {s : Shared} (z : Safe t) (h : wpAny M A t Q E s) :
    wpAny M A t (fun a s' => Q a s' ∧ Kept s.heap s'.heap) (fun e s' => E e s' ∧ Kept s.heap s'.heap) s := fun Γ p hΓ => safe_wp z p s (Kept.refl _) (h Γ p hΓ)


theorem safe_unsupported {α : Type} (x : String) : Safe (PySem.unsupported x : Sem α) := .unsupported x
theorem safe_load (a : Addr) : Safe (PySem.load a) := .load _ _ _ fun _ => .pure _
theorem safe_alloc (o : Obj) : Safe (PySem.alloc o) := .alloc _ _ fun _ => .pure _
theorem safe_stack : Safe PySem.stack := .stack _ fun _ => .pure _
theorem safe_update {a : Addr} {f : Obj → Obj} (hf : ∀ o : Obj, (f o).dict = o.dict ∧ (f o).isFreed = o.isFreed) : Safe (PySem.update a f) := .update _ _ _ _ hf (.pure _)
local macro_rules | `(tactic| trivial) => mtRun [("trivial", "F5 E @1 aSafe.pure _ E @1 asafe_unsupported _ E @1 asafe_load _ E @1 asafe_alloc _ E asafe_stack")] "trivial"
theorem safe_field (v : Value) (i : Nat) : Safe (field v i) := by
  unfold field fieldsOf
  refine safe_bind (fun a => ?_) ?_
  · split <;> trivial
  · split
    · refine safe_bind (fun o => ?_) (safe_load _)
      split <;> trivial
    · trivial
theorem safe_setField (v : Value) (i : Nat) (x : Value) : Safe (setField v i x) := by
  unfold setField updateField
  split
  · refine safe_bind (fun o => ?_) (safe_load _)
    split
    · refine safe_ite (safe_update fun o => ?_) (safe_unsupported _)
      obtain ⟨c, d, da, sl⟩ := o
      cases da <;> exact ⟨rfl, rfl⟩
    · trivial
  · trivial
theorem safe_behind (env : Env) (outer : List Env) : Safe (behindIsImport env outer) := by
  unfold behindIsImport
  repeat' first | exact safe_field _ _ | trivial | (refine safe_ite ?_ ?_) | (refine safe_bind (fun _ => ?_) ?_) | split
theorem safe_under : Safe underTheClaimsCaller := by
  unfold underTheClaimsCaller
  exact safe_bind (fun _ => .pure _) safe_stack
theorem safe_kept (env : Env) (b : Bool) (outer : List Env) : Safe (keptBack env b outer) := by
  unfold keptBack
  repeat' first | exact safe_under | trivial | (refine safe_ite ?_ ?_) | (refine safe_bind (fun _ => ?_) ?_) | split
theorem safe_readyFrames : ∀ l : List Env, Safe (readyFrames l)
  | [] => Safe.pure _
  | env :: outer => by
    unfold readyFrames
    repeat' first | exact safe_readyFrames outer | exact safe_behind _ _ | exact safe_kept _ _ _ | trivial | (refine safe_update fun o => ?_; obtain ⟨_, _, da, _⟩ := o; cases da <;> exact ⟨rfl, rfl⟩) | (refine safe_ite ?_ ?_) | (refine safe_bind (fun _ => ?_) ?_) | split
theorem safe_frameOf (env : Env) : Safe (PySem.frameOf env) := by
  unfold PySem.frameOf frameEnvs frameObject
  repeat' first | exact safe_readyFrames _ | trivial | (refine safe_ite ?_ ?_) | (refine safe_bind (fun _ => ?_) ?_) | split
theorem safe_entryPlaceOf (f : Addr) (b : Bool) : Safe (entryPlaceOf f b) := by
  unfold entryPlaceOf
  repeat' first | trivial | (refine safe_ite ?_ ?_) | (refine safe_bind (fun _ => ?_) ?_) | split
theorem safe_newFields (ty : String) (vs : List Value) : Safe (newFields ty vs) := by
  unfold newFields newObj
  dsimp only
  repeat' first | trivial | (refine safe_ite ?_ ?_) | (refine safe_bind (fun _ => ?_) ?_) | split
theorem safe_noteFrame (e : Value) (env : Env) : Safe (noteFrame e env) := by
  unfold noteFrame EntryCells.newEntry
  repeat' first | exact safe_field _ _ | exact safe_setField _ _ _ | exact safe_frameOf _ | exact safe_entryPlaceOf _ _ | exact safe_newFields _ _ | trivial | (refine safe_ite ?_ ?_) | (refine safe_bind (fun _ => ?_) ?_) | split
theorem safe_setFlight (e : Value) (fr : Option Addr) : Safe (setFlight e fr) := by
  unfold setFlight
  repeat' first | exact safe_field _ _ | exact safe_setField _ _ _ | trivial | (refine safe_ite ?_ ?_) | (refine safe_bind (fun _ => ?_) ?_) | split
theorem safe_leaving (env : Env) (e : Value) : Safe (leaving env e) := by
  unfold leaving
  exact safe_bind (fun _ => safe_setFlight _ _) (safe_noteFrame _ _)
end Mine
end
section
open PySem PySem.W PySem.Calls PyProof.Rows PySem.SeqAt


namespace Mine

/-- what the tuples of a tail read as, in every heap in which they stand -/
def LReads (tl : List (Addr × Obj)) (vs : List Value) (ds : List PyData) : Prop := ∀ h : Heap, (∀ p ∈ tl, h.get? p.1 = some p.2) → ReadsAll h vs ds []
def LRead (tl : List (Addr × Obj)) (v : Value) (d : PyData) : Prop := ∀ h : Heap, (∀ p ∈ tl, h.get? p.1 = some p.2) → Reads h v d []
section
variable {tl tl' news : List (Addr × Obj)} {vs us : List Value} {ds es : List PyData} {v : Value} {d : PyData} {h₀ h : Heap} {L : Addr}
theorem LReads.here (x : LReads tl vs ds) (N : News h₀ L h news) (s : ∀ p ∈ tl, p ∈ news) : ReadsAll h vs ds [] := x h fun p hp => (N p (s p hp)).1
theorem LRead.here (x : LRead tl v d) (N : News h₀ L h news) (s : ∀ p ∈ tl, p ∈ news) : Reads h v d [] := x h fun p hp => (N p (s p hp)).1
theorem LReads.more (x : LReads tl vs ds) (s : ∀ p ∈ tl, p ∈ tl') : LReads tl' vs ds := fun h k => x h fun p hp => k p (s p hp)
theorem LRead.more (x : LRead tl v d) (s : ∀ p ∈ tl, p ∈ tl') : LRead tl' v d := fun h k => x h fun p hp => k p (s p hp)
theorem LReads.nil : LReads tl [] [] := fun _ _ => .nil
theorem LReads.cons (x : LRead tl v d) (y : LReads tl vs ds) : LReads tl (v :: vs) (d :: ds) := fun h k => .cons (x h k) (y h k)
theorem readsAll_append {h : Heap} : ∀ {vs us : List Value} {ds es : List PyData} {as bs : List Addr}, ReadsAll h vs ds as → ReadsAll h us es bs → ReadsAll h (vs ++ us) (ds ++ es) (as ++ bs)
  | [], _, _, _, _, _, .nil, y => y
  | _ :: _, _, _, _, _, _, .cons a b, y => by
    rw [List.append_assoc]
    exact .cons a (readsAll_append b y)
theorem LReads.append (x : LReads tl vs ds) (y : LReads tl us es) : LReads tl (vs ++ us) (ds ++ es) := fun h k => readsAll_append (x h k) (y h k)
theorem LReads.length_eq {h : Heap} (x : LReads tl vs ds) (k : ∀ p ∈ tl, h.get? p.1 = some p.2) : vs.length = ds.length := SeqAt.ReadsAll.length _ _ _ (x h k)
theorem LRead.tuple {a : Addr} {n : Nat} {xs : List Value} (y : LReads tl xs ds) (hm : (a, { cls := .type "tuple", data := .seq xs.toArray n }) ∈ tl) : LRead tl (.ref a) (.tuple ds) :=
  fun h k => .tuple (k _ hm) rfl rfl (by simpa using y h k)
theorem LRead.int {i : Int} {t : Tok} : LRead tl (.int i t) (.int i) := fun _ _ => .int _ _
theorem LRead.str {x : Str} {t : Tok} : LRead tl (.str x t) (.str x) := fun _ _ => .str _ _
end
theorem lt_tail {news tl : List (Addr × Obj)} {x : Addr} (h : ∀ p ∈ news, p.1 < x) (s : ∀ p ∈ tl, p ∈ news) : ∀ p ∈ tl, p.1 ≠ x := fun p hp => Nat.ne_of_lt (h p (s p hp))
theorem lt_tail2 {news tl : List (Addr × Obj)} {x d : Addr} (h : ∀ p ∈ news, p.1 < d) (l : d < x) (s : ∀ p ∈ tl, p ∈ news) : ∀ p ∈ tl, p.1 ≠ x := fun p hp => Nat.ne_of_lt (Nat.lt_trans (h p (s p hp)) l)

/-- the class of keys of the dicts of places -/
abbrev knd (prog : Program) (w : World) {enc : Int → PyData} (I : Enc enc) : HeapKind prog w Int := dataKind prog w enc I.ok I.dep I.inj
/-- a dict that counts at places -/
def TabO (prog : Program) (w : World) {enc : Int → PyData} (I : Enc enc) (tl : List (Addr × Obj)) (o : Obj) (n : Nat) (cnt : Int → Int) : Prop :=
  ∃ es ep xs, o.ExactDict ∧ o.data = .dict es ep ∧ es.toList = xs.map (entryOfKey (knd prog w I)) ∧ (xs.map (·.1)).Nodup ∧ xs.length ≤ n ∧ (∀ x ∈ xs, LRead tl (.ref x.2.1) (enc x.1)) ∧
    ∀ k, (∃ t, valueAt (kvsOf xs) k = some (.int (cnt k) t)) ∨ (valueAt (kvsOf xs) k = none ∧ cnt k = 0)
theorem find_stored (v : Value) (k j : Int) : ∀ kvs : List (Int × Value), ((kvs.map fun kv => if kv.1 = k then (kv.1, v) else kv).find? fun kv => decide (kv.1 = j)).map (·.2) = if j = k then (if kvs.any (fun kv => kv.1 = k) then some v else none) else (kvs.find? fun kv => decide (kv.1 = j)).map (·.2)
  | [] => by simp
  | x :: r => by
    have ih := find_stored v k j r
    rw [List.map_cons, List.find?_cons, List.find?_cons, List.any_cons]
    by_cases h : x.1 = k
    · by_cases hj : j = k
      · subst hj; simp [h]
      · have : ¬ x.1 = j := fun e => hj (e ▸ h)
        simp only [h, if_true, this, decide_false, hj, if_false] at ih ⊢
        have h2 : ¬ k = j := fun e => hj e.symm
        simp only [h2, decide_false]
        exact ih
    · by_cases hj : j = k
      · subst hj
        simp only [h, if_false, decide_false, if_true, Bool.false_or] at ih ⊢
        exact ih
      · by_cases h3 : x.1 = j
        · simp only [h, if_false, h3, decide_true, hj]
        · simp only [h, if_false, h3, decide_false, hj] at ih ⊢
          exact ih
theorem valueAt_stored (kvs : List (Int × Value)) (k : Int) (v : Value) (j : Int) : valueAt (stored kvs k v) j = if j = k then some v else valueAt kvs j := by
  unfold stored valueAt
  by_cases hk : kvs.any (fun kv => kv.1 = k) = true
  · rw [if_pos hk, find_stored, if_pos hk]
  · rw [if_neg hk, List.find?_append]
    by_cases hj : j = k
    · subst hj
      have : kvs.find? (fun kv => decide (kv.1 = j)) = none := by
        rw [List.find?_eq_none]
        intro x hx hd
        exact hk (List.any_eq_true.mpr ⟨x, hx, hd⟩)
      simp [this]
    · have h2 : ¬ k = j := fun e => hj e.symm
      simp [hj, h2]

section
variable {prog : Program} {w : World} {enc : Int → PyData} {I : Enc enc} {tl tl' news : List (Addr × Obj)} {o : Obj} {n : Nat} {cnt : Int → Int} {A : Around} {E : Value → Shared → Prop} {s : Shared} {h₀ : Heap} {L d a : Addr} {m : Str → Option Value} {k : Int}
theorem TabO.more (x : TabO prog w I tl o n cnt) (q : ∀ p ∈ tl, p ∈ tl') : TabO prog w I tl' o n cnt :=
  let ⟨es, ep, xs, a, b, c, e, f, g, i⟩ := x; ⟨es, ep, xs, a, b, c, e, f, fun y hy => (g y hy).more q, i⟩
theorem TabO.exact (x : TabO prog w I tl o n cnt) : o.ExactDict := let ⟨_, _, _, a, _⟩ := x; a
theorem tab_method {pl : Sem Bool} {Q : Value × List Value → Shared → Prop} (N : News h₀ L s.heap news) (hm : (d, o) ∈ news) (x : TabO prog w I tl o n cnt) (h : Q (.builtin "dict.get", [.ref d]) s) :
    wpAny (model prog w) A (getMethod (.ref d) "get" pl) Q E s := by
  have c := x.exact
  have ho := (N _ hm).1
  exact getMethod_builtin (T := "dict") ⟨o, ho, c.1⟩ PySem.F.plainAttrs_dict PySem.F.slot_dict_get PySem.F.type_dict_get (fun b e => by injection e with e; subst e; exact ⟨o, ho, c.2.1⟩) h
theorem roomU {A : Around} (hu : A.units + 10 < cLine) : A.in1.units + 8 < cLine := by
  have : A.in1.units = A.units + 1 := rfl
  omega
theorem tab_get {t₀ : Tok} {Q : Value → Shared → Prop} (N : News h₀ L s.heap news) (hm : (d, o) ∈ news) (x : TabO prog w I tl o n cnt) (q : ∀ p ∈ tl, p ∈ news) (lo : (d == sysModules) = false) (hu : A.units + 10 < cLine)
    (hkey : Reads s.heap (.ref a) (enc k) []) (h : ∀ t tk', Q (.int (cnt k) t) { s with toks := tk' }) : wpAny (model prog w) A (call (.builtin "dict.get") [.ref d, .ref a, .int 0 t₀]) Q E s := by
  obtain ⟨es, ep, xs, c, hd, he, hn, hl, hr, hc⟩ := x
  have ho := (N _ hm).1
  have D : s.heap.DictOfH (knd prog w I) d xs := ⟨o, es, ep, ho, c, hd, he, fun y hy => (hr y hy).here N q, hn⟩
  refine call_meetsIn PySem.F.slot_dict_get D.typeIs PySem.F.entry_dict_get (PySem.F.args_dict_get_3 _ _ _) (meetsH_dict_get_default (knd prog w I) d a lo _) ⟨roomU hu, k, xs, hkey, D, ?_⟩
  rw [← valueAt_kvsOf]
  rcases hc k with ⟨t, e⟩ | ⟨e, e'⟩
  · rw [e]; exact h t _
  · rw [e, ← e']; exact h t₀ _
theorem tab_set {v : Int} {t : Tok} {g : Obj → List (Addr × Obj)} {Q : Unit → Shared → Prop} (F : Fr h₀ L s.heap m) (N : News h₀ L s.heap news) (U : UpdF d o news g) (x : TabO prog w I tl o n cnt) (q : ∀ p ∈ tl, p ∈ news) (hu : A.units + 10 < cLine) (hn' : n ≤ 200)
    (hkey : LRead tl (.ref a) (enc k)) (h : ∀ h' o' tk', Fr h₀ L h' m → News h₀ L h' (g o') → TabO prog w I tl o' (n + 1) (fun j => if j = k then v else cnt j) → Q () { s with heap := h', toks := tk' }) :
    wpAny (model prog w) A (setItem (.ref d) (.ref a) (.int v t)) Q E s := by
  obtain ⟨es, ep, xs, c, hd, he, hn, hl, hr, hc⟩ := x
  obtain ⟨pre, post, rfl, hg, u1, u2⟩ := U.split
  have hm := N (d, o) (List.mem_append_right _ (.head _))
  have D : s.heap.DictOfH (knd prog w I) d xs := ⟨o, es, ep, hm.1, c, hd, he, fun y hy => (hr y hy).here N q, hn⟩
  refine wpAny_setItem_heap (knd := knd prog w I) (k := k) (roomU hu) (hkey.here N q) D (fun h' hD hs => ?_) (by rw [sizeLine_eq]; omega)
  obtain ⟨o', es', ep', ho', c', hd', he', hi', hn'⟩ := hD
  refine h h' o' _ (F.change hs hm.2.1 hm.2.2) (hg o' ▸ N.setIn u1 u2 hs ho') ⟨es', ep', _, c', hd', he', hn', ?_, fun y hy => ?_, fun j => ?_⟩
  · have := stored_length_le (kvsOf xs) k (.int v t)
    rw [← kvsOf_storedH xs k a] at this
    simpa [kvsOf] using Nat.le_trans this (by simpa [kvsOf] using hl)
  · rcases mem_storedH hy with ⟨z, hz, e1, e2⟩ | ⟨e1, e2⟩
    · rw [e1, e2]; exact hr z hz
    · rw [e1, e2]; exact hkey
  · rw [kvsOf_storedH, valueAt_stored]
    by_cases hj : j = k
    · simp only [hj, if_true]; exact .inl ⟨t, rfl⟩
    · simp only [hj, if_false]; exact hc j
end
end Mine
end
section
open PySem PySem.W PySem.Calls PyProof.Rows PySem.SeqAt


namespace Mine
section
variable {prog : Program} {w : World} {A : Around} {E : Value → Shared → Prop} {s : Shared} {env : Env} {h₀ : Heap} {x : Str} {body : List Stmt} {Q : Flow → Shared → Prop}
/-- what a turn of a loop that only looks leaves -/
def LookPost (s₁ : Shared) (Q : Flow → Shared → Prop) (J : Prop) (f : Flow) (s₂ : Shared) : Prop :=
  match f with
  | .ret v => Q (.ret v) s₂
  | .brk => Q .next s₂
  | _ => J ∧ ∃ tk, s₂ = { s₁ with toks := tk }
theorem list_look {l : Addr} {vs : List Value} {n : Nat} {m : Str → Option Value} {news : List (Addr × Obj)} (J : Nat → Prop) (hh : A.handled = none) (F : Fr h₀ env.locals s.heap m) (N : News h₀ env.locals s.heap news) (hm : (l, listOf vs.toArray n) ∈ news) (hj : J 0)
    (turn : ∀ i v h tk, vs[i]? = some v → J i → Fr h₀ env.locals h (fun y => if y = x then some v else m y) → News h₀ env.locals h news →
      wpAny (model prog w) A (execs body env) (LookPost { s with heap := h, toks := tk } Q (J (i + 1))) E { s with heap := h, toks := tk })
    (done : ∀ u h tk, J vs.length → Fr h₀ env.locals h (fun y => if y = x then u else m y) → News h₀ env.locals h news → Q .next { s with heap := h, toks := tk }) :
    wpAny (model prog w) A (pyIter (.ref l)) (fun it s₂ => LoopAtV prog w A h₀ env x body Q E it s₂) E s := by
  have hls : s.heap.IsList l vs.toArray := ⟨_, (N _ hm).1, rfl, _, rfl⟩
  have hne : l ≠ s.heap.objs.size := Nat.ne_of_lt (Heap.lt_size (N _ hm).1)
  refine wpAny_pyIter_list hls ?_
  have W := Walks.list (prog := prog) (w := w) hh s.heap.objs.size l hne vs.toArray
  have hlen : vs.toArray.size = vs.length := List.size_toArray
  rw [hlen] at W
  let J' : Nat → (Str → Option Value) → List (Addr × Obj) → Prop := fun i m₁ nx => (∃ u, m₁ = fun y => if y = x then u else m y) ∧ nx = news ∧ J i
  have hoff₀ : ∀ p ∈ news, p.1 ∉ [s.heap.objs.size] := fun p hp hI => absurd (Heap.lt_size (N p hp).1) ((List.mem_singleton.mp hI) ▸ Nat.lt_irrefl _)
  refine ⟨_, _, _, vs.length, _, _, m, news, J', rfl, W, ?_, ?_, hoff₀, ⟨⟨_, Heap.get?_push_size _ rfl, rfl, rfl⟩, hls.at fun o e => Heap.get?_push_of_some _ e⟩, F.push _, (fun p hp => ⟨Heap.get?_push_of_some _ (N p hp).1, (N p hp).2⟩), ⟨⟨m x, ?_⟩, rfl, hj⟩, ?_, ?_⟩
  · intro hI
    rcases List.mem_cons.mp hI with e | hI
    · exact absurd F.ns.lt (e ▸ Nat.lt_irrefl _)
    · exact (N _ hm).2.1 (List.mem_singleton.mp hI).symm
  · intro b hb
    rw [List.mem_singleton.mp hb]
    exact next_is_new F
  · funext y
    split
    · next h => rw [h]
    · rfl
  · rintro i v m₁ news₁ s₁ own ⟨hh', tk', rfl⟩ hin hP ⟨⟨u, rfl⟩, rfl, hJ⟩ hoff hown _ _ _ F₁ N₁
    have hx : vs[i]? = some v := by simpa using hP
    have F₂ : Fr h₀ env.locals hh' (fun y => if y = x then some v else m y) := by
      have e : (fun y => if y = x then some v else (fun y => if y = x then u else m y) y) = fun y => if y = x then some v else m y := by
        funext y
        by_cases h : y = x <;> simp [h]
      rw [← e]; exact F₁
    refine wpAny_mono (turn i v hh' tk' hx hJ F₂ fun p hp => N₁ p (List.mem_append_right _ hp)) (fun f s₂ p => ?_) fun _ _ e => e
    have fin : (J (i + 1) ∧ ∃ tk, s₂ = { s with heap := hh', toks := tk }) → LoopStepU h₀ env.locals [s.heap.objs.size] own (J' (i + 1)) { s with heap := hh', toks := tk' } .next s₂ := by
      rintro ⟨hj', tk, rfl⟩
      exact ⟨rfl, hh', tk, _, news₁, rfl, F₂, N₁, hoff, ⟨some v, rfl⟩, rfl, hj'⟩
    cases f with
    | ret v => exact .ret p
    | brk => exact .brk p
    | next => exact .next (fin p)
    | cont => exact .cont (fin p)
  · rintro h' tk m' news' F' N' _ ⟨⟨u, rfl⟩, rfl, hJ⟩
    exact done u h' tk hJ F' N'
/-- the same, the locals' address named -/
theorem list_lookL {L : Addr} {l : Addr} {vs : List Value} {n : Nat} {m : Str → Option Value} {news : List (Addr × Obj)} (J : Nat → Prop) (hh : A.handled = none) (F : Fr h₀ L s.heap m) (N : News h₀ L s.heap news) (hm : (l, listOf vs.toArray n) ∈ news) (hL : env.locals = L) (hj : J 0)
    (turn : ∀ i v h tk, vs[i]? = some v → J i → Fr h₀ L h (fun y => if y = x then some v else m y) → News h₀ L h news →
      wpAny (model prog w) A (execs body env) (LookPost { s with heap := h, toks := tk } Q (J (i + 1))) E { s with heap := h, toks := tk })
    (done : ∀ u h tk, J vs.length → Fr h₀ L h (fun y => if y = x then u else m y) → News h₀ L h news → Q .next { s with heap := h, toks := tk }) :
    wpAny (model prog w) A (pyIter (.ref l)) (fun it s₂ => LoopAtV prog w A h₀ env x body Q E it s₂) E s := by
  subst hL
  exact list_look J hh F N hm hj turn done
theorem news_dup {h : Heap} {L : Addr} {news : List (Addr × Obj)} {q : Addr × Obj} (N : News h₀ L h news) (hq : q ∈ news) : News h₀ L h (q :: news) := fun p hp => by
  rcases List.mem_cons.mp hp with rfl | hp
  · exact N _ hq
  · exact N _ hp
end
end Mine
end
section
open PySem PySem.W PySem.Spec PySem.Calls PyProof.Rows PySem.SeqAt


namespace Mine

theorem frames_mem {env : Env} {L b : Addr} {outer : List Env} (hf : env.frame = some L) (hm : b ∈ (env :: outer).filterMap (·.frame)) : b = L ∨ b ∈ outer.filterMap (·.frame) := by
  obtain ⟨e, he, hb⟩ := List.mem_filterMap.mp hm
  rcases List.mem_cons.mp he with rfl | he
  · exact .inl (Option.some.inj (hb.symm.trans hf))
  · exact .inr (List.mem_filterMap.mpr ⟨e, he, hb⟩)

/-- an exception of an own class with a dict flies over the frames l; what it left is news -/
def RaisedE (base G : Heap) (l : List Env) (e : Addr) (cls : Value) (d : Addr) (news : List (Addr × Obj)) (h : Heap) : Prop :=
  (∃ B a0, base.StaysIn B ∧ (∀ b o, G.get? b = some o → b ∉ l.filterMap (·.frame) → B.get? b = some o) ∧ (∀ q ∈ news, B.get? q.1 = some q.2 ∧ G.get? q.1 = none ∧ base.get? q.1 = none) ∧ Heap.FlyingW B l e cls a0 h) ∧
  ∃ oe, h.get? e = some oe ∧ oe.dict = some d

theorem RaisedE.sub {base G : Heap} {l : List Env} {e d : Addr} {cls : Value} {n1 n2 : List (Addr × Obj)} {h : Heap} (x : RaisedE base G l e cls d n1 h) (s : ∀ q ∈ n2, q ∈ n1) : RaisedE base G l e cls d n2 h :=
  let ⟨⟨B, a0, a, b, c, f⟩, o⟩ := x; ⟨⟨B, a0, a, b, fun q hq => c q (s q hq), f⟩, o⟩

inductive Drop (e : Addr) : List (Addr × Obj) → List (Addr × Obj) → Prop
  | hit {o l} : (∀ p ∈ l, p.1 ≠ e) → Drop e ((e, o) :: l) l
  | keep {p l l'} : p.1 ≠ e → Drop e l l' → Drop e (p :: l) (p :: l')
theorem Drop.sub {e : Addr} {l l' : List (Addr × Obj)} (x : Drop e l l') : ∀ q ∈ l', q ∈ l ∧ q.1 ≠ e := by
  induction x with
  | hit h => exact fun q hq => ⟨.tail _ hq, h q hq⟩
  | keep h _ ih =>
    intro q hq
    rcases List.mem_cons.mp hq with rfl | hq
    · exact ⟨.head _, h⟩
    · exact ⟨.tail _ (ih q hq).1, (ih q hq).2⟩

section
variable {M : Model} {A : Around} {E : Value → Shared → Prop} {s' : Shared} {base g g₂ h : Heap} {outer : List Env} {env : Env} {L e t d : Addr} {C : Addr} {m : Str → Option Value} {Q : Unit → Shared → Prop} {news news' : List (Addr × Obj)}
theorem leave_firstE (K : Below A base outer g) (F : Fr g L s'.heap m) (N : News g L s'.heap news) (hm : (e, excObj C (some d) t) ∈ news) (hn : Drop e news news') (hf : env.frame = some L) (hk : env.scope.kind = .function)
    (hQ : ∀ h', RaisedE base g outer e (.ref C) d news' h' → g.UpToSlots h' → Q () { s' with heap := h' }) :
    wpAny M (A.deeper env) (leaving env (.ref e)) Q E s' := by
  have K' := pushX (env := env) K F hf hk
  let fs := e :: (env :: outer).filterMap (·.frame)
  have hee := N _ hm
  have hne : e ∉ (env :: outer).filterMap (·.frame) := fun z => by
    rcases frames_mem hf z with z | z
    · exact hee.2.1 z
    · obtain ⟨_, o, ho, _⟩ := K.frames.mem z
      rw [hee.2.2] at ho; cases ho
  have hin : ∀ v ∈ (env :: outer), ∀ b, v.frame = some b → b ∈ fs := fun v hv b hb => .tail _ (List.mem_filterMap.mpr ⟨v, hv, hb⟩)
  have st : base.StaysIn (hideAll s'.heap fs) := fun b o q => hideAll_get _ (K'.stays b o q) fun z => by
    rcases List.mem_cons.mp z with z | z
    · have := fresh_of_stays K.stays hee.2.2
      rw [z] at q; rw [this] at q; cases q
    · rw [(K'.frames.mem z).1] at q; cases q
  have sg : ∀ b o, g.get? b = some o → b ∉ outer.filterMap (·.frame) → (hideAll s'.heap fs).get? b = some o := fun b o q nm => hideAll_get _ (F.keep b o q) fun z => by
    rcases List.mem_cons.mp z with z | z
    · rw [z, hee.2.2] at q; cases q
    · rcases frames_mem hf z with z | z
      · rw [z, kts_self F] at q; cases q
      · exact nm z
  have hl : ∀ q ∈ news', (hideAll s'.heap fs).get? q.1 = some q.2 ∧ g.get? q.1 = none ∧ base.get? q.1 = none := fun q hq => by
    obtain ⟨h1, h2⟩ := hn.sub q hq
    refine ⟨hideAll_get _ (N q h1).1 fun z => ?_, (N q h1).2.2, fresh_of_stays K.stays (N q h1).2.2⟩
    rcases List.mem_cons.mp z with z | z
    · exact h2 z
    · rcases frames_mem hf z with z | z
      · exact (N q h1).2.1 z
      · obtain ⟨_, o, ho, _⟩ := K.frames.mem z
        rw [(N q h1).2.2] at ho; cases ho
  have hen : (hideAll s'.heap fs).get? e = none := hideAll_none _ (.head _)
  refine wpAny_mono (wpAny_kept (safe_leaving _ _) (wpAny_leaving_firstW (Q := fun _ s₂ => ∃ h', s₂ = { s' with heap := h' } ∧ Heap.LeftW (hideAll s'.heap fs) (env :: outer) e (.ref C) (.ref t) s'.heap h') (a0 := .ref t) K'.stack (funFrames_hide K'.frames hin) hf hee.1 (fun b o q => of_hideAll _ q) hen rfl rfl rfl fun h' hL => ⟨h', rfl, hL⟩)) ?_ fun _ _ y => y.1
  rintro _ s₂ ⟨⟨h', rfl, hL⟩, hK⟩
  obtain ⟨k1, ⟨_, _, k2⟩, k3, k4⟩ := hL
  exact hQ h' ⟨⟨_, .ref t, st, sg, hl, k1, hen, k2, k3⟩, by obtain ⟨o', ho', hd'⟩ := hK e _ hee.1; exact ⟨o', ho', hd'⟩⟩ ((Heap.UpToSlots.of_keeps F.keep).trans k4)

theorem leave_onE {cls : Value} (K : Below A base outer g) (F : Fr g L g₂ m) (R : RaisedE base g₂ (env :: outer) e cls d news s'.heap) (hsm : g₂.UpToSlots s'.heap) (hf : env.frame = some L)
    (hQ : ∀ h', RaisedE base g outer e cls d news h' → g.UpToSlots h' → Q () { s' with heap := h' }) :
    wpAny M (A.deeper env) (leaving env (.ref e)) Q E s' := by
  obtain ⟨⟨B, a0, hB, hBG, hl, hfl⟩, oe, hoe, hod⟩ := R
  refine wpAny_mono (wpAny_kept (safe_leaving _ _) (wpAny_leaves_onW (Q := fun _ s₂ => ∃ h', s₂ = { s' with heap := h' } ∧ Heap.FlyingW B outer e cls a0 h' ∧ s'.heap.UpToSlots h') (Around.frames_deeper K.stack) hf hfl fun h' x1 x2 => ⟨h', rfl, x1, x2⟩)) ?_ fun _ _ y => y.1
  rintro _ s₂ ⟨⟨h', rfl, x1, x2⟩, hK⟩
  refine hQ h' ⟨⟨B, a0, hB, fun b o q nm => hBG b o (F.keep b o q) (fun hm => ?_), fun q hq => ⟨(hl q hq).1, kts_none F.keep (hl q hq).2.1, (hl q hq).2.2⟩, x1⟩, ?_⟩ ((Heap.UpToSlots.of_keeps F.keep).trans (hsm.trans x2))
  · rcases frames_mem hf hm with z | z
    · rw [z, kts_self F] at q; cases q
    · exact nm z
  · obtain ⟨o', ho', hd'⟩ := hK e _ hoe
    exact ⟨o', ho', hd'.trans hod⟩
end

section
variable {A₀ : Around} {base g G B h₅ : Heap} {outer : List Env} {L : Addr} {m : Str → Option Value} {env : Env}
theorem ground_turn (K : Below A₀ base outer g) (F : Fr g L G m) (hf : env.frame = some L) (hBG : ∀ b o, G.get? b = some o → b ∉ (env :: outer).filterMap (·.frame) → B.get? b = some o) (hBh : B.StaysIn h₅) (hsm : G.UpToSlots h₅) :
    ∃ g', KtsTurn (outer.filterMap (·.frame)) g g' ∧ Fr g' L h₅ m ∧ Below A₀ base outer g' := by
  obtain ⟨T, S⟩ := kts_turn_at (h := h₅) (fs := outer.filterMap (·.frame)) (g := g)
    (fun b hb => by
      obtain ⟨_, o, ho, _⟩ := K.frames.mem hb
      exact ⟨o, ho⟩)
    (fun b o e nm => hBh b o (hBG b o (F.keep b o e) (fun hm => by
      rcases frames_mem hf hm with z | z
      · rw [z, kts_self F] at e
        cases e
      · exact nm z)))
    (fun b o e hm => by
      obtain ⟨_, o', ho', hd⟩ := K.frames.mem hm
      rw [e] at ho'
      cases ho'
      exact hsm b o (F.keep b o e) hd)
  refine ⟨_, T, ⟨hsm.ns F.ns, S, by rw [T.size]; exact F.above⟩, ⟨K.stack, fun b o e => T.other b o (K.stays b o e) (fun hm => by
    rw [(K.frames.mem hm).1] at e
    cases e), K.frames.of_keeps fun b o e _ => ?_⟩⟩
  obtain ⟨sl, hs⟩ := T.up e
  exact ⟨_, hs, rfl⟩
end

section
variable {prog : Program} {w : World} {A₀ : Around} {E : Value → Shared → Prop} {s' : Shared} {base g G : Heap} {outer : List Env} {L a e d C : Addr} {m : Str → Option Value} {name : Str} {scope : Scope} {cd : Value}
  {n : Str} {b₀ : Stmt} {suite : List Stmt} {pos np : Pos} {rest : List ExceptHandler} {Q : Flow → Shared → Prop} {news : List (Addr × Obj)} {KF : Frag}
  {p : Program} {loose : List Str} {mean : ExcName → Option Value} {mg mb : Str → Option Value} {x : Str}
theorem caught_E (R : RaisedE base G (envOf name scope L a cd :: outer) e (.ref C) d news s'.heap) (F : Fr g L G m) (K : Below A₀ base outer g) (hsm : G.UpToSlots s'.heap) (XB : KF.In base) (TB : Top p loose mean mg mb base)
    (ex : nsIn KF mainGlobals x = some (some (.ref C))) (q : ktsIn KF C "BaseException" = true)
    (k : ∀ h' g' tk oe, KtsTurn (outer.filterMap (·.frame)) g g' → Fr g' L h' (fun y => if y = n then some (.ref e) else m y) → News g' L h' ((e, oe) :: news) → oe.cls = .ref C → oe.dict = some d → (∃ vs, oe.data = .fields vs) → Below A₀ base outer g' → KF.In g' → Top p loose mean mg mb g' →
      wpAny (model prog w) ((A₀.deeper (envOf name scope L a cd)).mark (some (.ref e))) (execs (b₀ :: suite) (envOf name scope L a cd))
        (fun f s₄ => wpAny (model prog w) (A₀.deeper (envOf name scope L a cd)) (do bindName (envOf name scope L a cd) n .none; unbindBehindTheSuite (envOf name scope L a cd) n pos) (fun _ s₅ => Q f s₅) E s₄)
        (AsSuiteRaised (model prog w) ((A₀.deeper (envOf name scope L a cd)).mark (some (.ref e))) (envOf name scope L a cd) n pos (notedBy (model prog w) ((A₀.deeper (envOf name scope L a cd)).mark (some (.ref e))) (envOf name scope L a cd) (cameBackBy (model prog w) (A₀.deeper (envOf name scope L a cd)) (envOf name scope L a cd) E)))
        { s' with heap := h', toks := tk })
    (hk : scope.kind = .function := by rfl) (hlo : (envOf name scope L a cd).kindOf n = some .local := by rfl) (hx : (envOf name scope L a cd).kindOf x = some .globalImplicit := by rfl) (hd : (x == ("__debug__" : Str)) = false := by decide) :
    wpAny (model prog w) (A₀.deeper (envOf name scope L a cd)) (noteFrame (.ref e) (envOf name scope L a cd))
      (fun _ s₂ => wpAny (model prog w) (A₀.deeper (envOf name scope L a cd)) (setFlight (.ref e) none) (fun _ s₃ =>
        wpAny (model prog w) (A₀.deeper (envOf name scope L a cd)) (handleBy (.ref e) (envOf name scope L a cd) (.ExceptHandler (some (.Name x np)) (some n) (b₀ :: suite) pos :: rest)) Q E s₃) E s₂) E s' := by
  obtain ⟨⟨B, a0, hB, hBG, hl, hfl⟩, oe₀, hoe₀, hod₀⟩ := R
  have hf : (envOf name scope L a cd).frame = some L := rfl
  have hL : B.get? L = none := by
    obtain ⟨_, ⟨L', _, hf, hn', _⟩, _⟩ := hfl.2.2.1
    obtain rfl : L = L' := Option.some.inj hf
    exact hn'
  refine wpAny_mono (wpAny_kept (safe_noteFrame _ _) (wpAny_looks_onW (Q := fun _ s₂ => ∃ h', s₂ = { s' with heap := h' } ∧ Heap.HeldW B (envOf name scope L a cd :: outer) e (.ref C) a0 L h' ∧ s'.heap.UpToSlots h') (Around.frames_deeper K.stack) rfl hfl fun h₄ x1 x2 => ⟨h₄, rfl, x1, x2⟩)) ?_ fun _ _ y => y.1
  rintro _ s₂ ⟨⟨h₄, rfl, hheld₄, hsm₄⟩, hK₄⟩
  refine wpAny_mono (wpAny_kept (safe_setFlight _ _) (wpAny_landsW (Q := fun _ s₂ => ∃ h', s₂ = { s' with heap := h' } ∧ Heap.FlyingW B (envOf name scope L a cd :: outer) e (.ref C) a0 h' ∧ h₄.UpToSlots h') (s := { s' with heap := h₄ }) hheld₄ fun h₅ x1 x2 => ⟨h₅, rfl, x1, x2⟩)) ?_ fun _ _ y => y.1
  rintro _ s₂ ⟨⟨h₅, rfl, hheld, hsm₅'⟩, hK₅⟩
  have hsm₅ := hsm₄.trans hsm₅'
  obtain ⟨g₅, T₅, F₅, K₅⟩ := ground_turn K F hf hBG hheld.1 (hsm.trans hsm₅)
  have X₅ : KF.In g₅ := XB.keeps K₅.stays
  have P₅ : TopRead p loose mg mb g₅ := topRead_of (TB.keeps K₅.stays)
  obtain ⟨ob, hob, hobc⟩ := hheld.there
  obtain ⟨nm, q', N, bs, bm, hdct, sn, sub, ab, col, dd, k0, k1, k2, k3, k5, newId, hC, hbase, hbT⟩ := kts_cls X₅ q
  have hC₅ := F₅.keep _ _ hC
  refine wpAny_handleBy_cons (codeAny_handlers_test (name_K F₅ X₅ P₅ ex ?_ hk hx hd)) (by intro q; cases q)
  refine wpAny_excMatches_sub_self hC₅ hob hobc hbase (codeAny_handlers_suite_as ?_)
  refine wpAny_mono (wpAny_kept (safe_setFlight _ _) (lands_againW (Q := fun _ s₂ => ∃ h', s₂ = { s' with heap := h' } ∧ Heap.FlyingW B (envOf name scope L a cd :: outer) e (.ref C) a0 h' ∧ h₅.UpToSlots h') (s := { s' with heap := h₅ }) hheld fun h₆ x1 x2 => ⟨h₆, rfl, x1, x2⟩)) ?_ fun _ _ y => y.1
  rintro _ s₂ ⟨⟨h₆, rfl, hfl₆, hsm₆⟩, hK₆⟩
  obtain ⟨g₆, T₆, F₆, K₆⟩ := ground_turn K F hf hBG hfl₆.1 ((hsm.trans hsm₅).trans hsm₆)
  obtain ⟨oe, ws, hoe, hoec, hoed, hoe0⟩ := hfl₆.first
  have hod : oe.dict = some d := by
    obtain ⟨o', ho', hd'⟩ := (hK₄.trans (hK₅.trans hK₆)) e _ hoe₀
    rw [hoe] at ho'
    cases ho'
    exact hd'.trans hod₀
  have ne₆ : g₆.get? e = none := T₆.none_ _ (by
    cases z : g.get? e with
    | none => rfl
    | some o =>
      by_cases hm : e ∈ outer.filterMap (·.frame)
      · obtain ⟨_, o', ho', hd⟩ := K.frames.mem hm
        rw [z] at ho'
        cases ho'
        obtain ⟨sl, hs⟩ := ((hsm.trans hsm₅).trans hsm₆) _ _ (F.keep _ _ z) hd
        rw [hoe] at hs
        cases hs
        exact (hd _ hoed).elim
      · have := hBG e o (F.keep e o z) (fun hm' => by
          rcases frames_mem hf hm' with y | y
          · rw [y, kts_self F] at z
            cases z
          · exact hm y)
        rw [hfl₆.2.1] at this
        cases this)
  have N₆ := News.more F₆ News.nil hoe (fun es n q => by rw [hoed] at q; cases q) ne₆
  have Nl : News g₆ L h₆ news := fun q hq => ⟨hfl₆.1 _ _ (hl q hq).1, (fun z => by have := (hl q hq).1; rw [z, hL] at this; cases this), T₆.none_ _ (kts_none F.keep (hl q hq).2.1)⟩
  refine stN F₆ (news := _ ++ news) (fun q hq => (List.mem_append.mp hq).elim (N₆ q) (Nl q)) (fun h₇ F₇ N₇ => ?_) hk hlo
  exact k h₇ g₆ _ oe T₆ F₇ N₇ hoec hod ⟨ws, hoed⟩ K₆ (XB.keeps K₆.stays) (TB.keeps K₆.stays)
end
end Mine
end
section
open PySem PySem.W PySem.Spec PySem.Calls PyProof.Rows PySem.SeqAt


namespace Mine
/-- a def's way back to a caller over which an exception may have flown -/
def LeaveT (fs : List Addr) (A₀ : Around) (base : Heap) (outer : List Env) (h₀ : Heap) (L : Addr) (m : Str → Option Value) (g : Heap) (R : Result → Shared → Prop) (v : Value) (s' : Shared) : Prop :=
  ∃ g' L' m' news', KtsTurn fs g g' ∧ Fr g' L' s'.heap m' ∧ News g' L' s'.heap news' ∧ ∀ h₀', KtsTurn (outer.filterMap (·.frame)) h₀ h₀' → Fr h₀' L s'.heap m → News h₀' L s'.heap news' → Below A₀ base outer h₀' → R (.ok (.ret v)) s'
section
variable {A₀ A : Around} {s : Shared} {base h₀ : Heap} {outer : List Env} {L : Addr} {m : Str → Option Value} {env : Env} {news : List (Addr × Obj)} {R : Result → Shared → Prop}
theorem groundT (B : Below A₀ base outer h₀) (F : Fr h₀ L s.heap m) (N : News h₀ L s.heap news) (hf : env.frame = some L) :
    ∀ v s', LeaveT ((env :: outer).filterMap (·.frame)) A₀ base outer h₀ L m (hideAll s.heap (news.map (·.1))) R v s' → R (.ok (.ret v)) s' := by
  have nm : ∀ b o, h₀.get? b = some o → b ∉ news.map (·.1) := fun b o e q => by
    obtain ⟨p, hp, rfl⟩ := List.mem_map.mp q
    rw [(N p hp).2.2] at e; cases e
  have st : h₀.StaysIn (hideAll s.heap (news.map (·.1))) := fun b o e => hideAll_get _ (F.keep b o e) (nm b o e)
  obtain ⟨oL, es, ep, hL, hLd, hLk, hLf⟩ := F.ns
  have nL : L ∉ news.map (·.1) := fun q => by
    obtain ⟨p, hp, e⟩ := List.mem_map.mp q
    exact (N p hp).2.1 e
  have hLg := hideAll_get (news.map (·.1)) hL nL
  have nL₀ : h₀.get? L = none := kts_self F
  rintro v s' ⟨g', L', m', news', T', F', N', k⟩
  obtain ⟨sl, hs⟩ := T'.up hLg
  obtain ⟨T₁, S₁⟩ := kts_turn_at (h := s'.heap) (fs := outer.filterMap (·.frame)) (g := h₀)
    (fun b hb => by
      obtain ⟨_, o, ho', _⟩ := B.frames.mem hb
      exact ⟨o, ho'⟩)
    (fun b o e nmem => F'.keep b o (T'.other b o (st b o e) (fun q => by
      rcases frames_mem hf q with z | z
      · rw [z, nL₀] at e
        cases e
      · exact nmem z)))
    (fun b o e hm => by
      obtain ⟨sl', hs'⟩ := T'.up (st b o e)
      exact ⟨sl', F'.keep _ _ hs'⟩)
  have B₃ : Below A₀ base outer (ktsHeap s'.heap (outer.filterMap (·.frame)) h₀) := ⟨B.stack, fun b o e => T₁.other b o (B.stays b o e) (fun hm => by
    rw [(B.frames.mem hm).1] at e
    cases e), B.frames.of_keeps fun b o e _ => by
    obtain ⟨sl', hs'⟩ := T₁.up e
    exact ⟨_, hs', rfl⟩⟩
  refine k _ T₁ ⟨⟨_, es, ep, F'.keep _ _ hs, hLd, hLk, hLf⟩, S₁, by rw [T₁.size]; exact F.above⟩ (fun p hp => ⟨(N' p hp).1, fun q => ?_, ?_⟩) B₃
  · have := (N' p hp).2.2; rw [q, hs] at this; cases this
  · refine T₁.none_ _ ?_
    cases q : h₀.get? p.1 with
    | none => rfl
    | some o =>
      obtain ⟨sl', hs'⟩ := T'.up (st _ _ q)
      have := (N' p hp).2.2
      rw [hs'] at this
      cases this
theorem LeaveT.of {h₀' : Heap} {L' : Addr} {m' : Str → Option Value} {news' : List (Addr × Obj)} {fs : List Addr} {g g' : Heap} {v : Value} {s' : Shared} (T : KtsTurn fs g g') (F' : Fr g' L' s'.heap m') (N' : News g' L' s'.heap news')
    (k : ∀ h₀', KtsTurn (outer.filterMap (·.frame)) h₀ h₀' → Fr h₀' L s'.heap m → News h₀' L s'.heap news' → Below A₀ base outer h₀' → R (.ok (.ret v)) s') : LeaveT fs A₀ base outer h₀ L m g R v s' := ⟨g', L', m', news', T, F', N', k⟩
end
section
variable {prog : Program} {w : World} {A₀ A : Around} {s : Shared} {base h₀ : Heap} {outer : List Env} {L : Addr} {m mg mb : Str → Option Value} {env : Env} {news : List (Addr × Obj)} {K : Frag}
  {R : Result → Shared → Prop} {name qual : Str} {params : Arguments} {body : List Stmt} {scope : Scope} {dV kV doc pm cdv ct oc : Value} {an od : Option Addr} {osl : Array (Option Value)} {f : Addr} {args : Args} {binds : List (Str × Value)}
  {p : Program} {loose : List Str} {mean : ExcName → Option Value}
theorem enterT (B : Below A₀ base outer h₀) (F : Fr h₀ L s.heap m) (X₀ : K.In h₀) (N : News h₀ L s.heap news) (T : Top p loose mean mg mb h₀) (hA : A.frames = some (env :: outer)) (hf : env.frame = some L) (hke : env.scope.kind = .function)
    (ho : K.lookup f = some ⟨oc, od, .func (fnOf name qual params body scope dV kV doc pm an cdv ct), osl⟩) (hcd : codeIn K cdv qual = true) (hroom : A.depth < recursionLimit)
    (hbind : BindsTo s (fnOf name qual params body scope dV kV doc pm an cdv ct) args binds) (hloc : ∀ y ∈ binds, scope.names.lookup y.1 = some .local)
    (h : ∀ g L' h₁, Fr h₀ L g m → Fr g L' h₁ (fun y => binds.reverse.lookup y) → News g L' h₁ news → Below A base (env :: outer) g → K.In g → Top p loose mean mg mb g →
      wpAny (model prog w) (A.deeper (envOf qual scope L' f cdv)) (execs body (envOf qual scope L' f cdv))
        (fun fl s' => LeaveT ((env :: outer).filterMap (·.frame)) A₀ base outer h₀ L m g R (match fl with | .ret v => v | _ => .none) s')
        (fun e s' => wpAny (model prog w) (A.deeper (envOf qual scope L' f cdv)) (leaving (envOf qual scope L' f cdv) e) (fun _ s'' => R (.error e) s'') (fun e' s'' => R (.error e') s'') s')
        { s with heap := h₁, toks := s.toks + binds.length })
    (hco : scope.isCoroutine = false) (hgen : scope.isGenerator = false) (hk : scope.kind = .function)
    (hcell : ∀ x ∈ scope.names, x.2 ≠ .cell) : codeAny (model prog w) A (.call (.ref f) args) R s := by
  obtain ⟨FG, BG, st, _⟩ := groundX (R := R) B F N hA hf hke
  refine codeAny_call_def (fd := fnOf name qual params body scope dV kV doc pm an cdv ct) (body := body) (binds := binds) hroom ((X₀.keeps F.keep) _ _ ho) rfl (T.nolimit.keeps F.keep) (codeRec_of (X₀.keeps F.keep) hcd) rfl hbind hcell hloc (fun h₁ hns hk₁ => ?_) hco hgen hk
  exact wpAny_mono (h _ s.heap.objs.size h₁ FG ⟨hns, fun b o e => hk₁ b o (of_hideAll _ e), Nat.le_of_eq (hideAll_size _ _)⟩
    (fun p hp => ⟨hk₁ _ _ (N p hp).1, Nat.ne_of_lt (Heap.lt_size (N p hp).1), hideAll_none _ (List.mem_map_of_mem hp)⟩) BG (X₀.keeps st) (T.keeps st)) (fun fl s' hl => groundT B F N hf _ _ hl) fun _ _ y => y
theorem enterTC (B : Below A₀ base outer h₀) (F : Fr h₀ L s.heap m) (X₀ : K.In h₀) (N : News h₀ L s.heap news) (T : Top p loose mean mg mb h₀) (hA : A.frames = some (env :: outer)) (hf : env.frame = some L) (hke : env.scope.kind = .function)
    (ho : K.lookup f = some ⟨oc, od, .func (fnOf name qual params body scope dV kV doc pm an cdv ct), osl⟩) (hcd : codeIn K cdv qual = true) (hroom : A.depth < recursionLimit)
    (hbind : BindsTo s (fnOf name qual params body scope dV kV doc pm an cdv ct) args binds) (hkind : (binds.all fun y => scope.names.lookup y.1 == some .local || scope.names.lookup y.1 == some .cell) = true)
    (hnd : ((cellsFrom 0 scope.names []).map (·.1)).Nodup)
    (h : ∀ g L' h₁ tk cells, Fr h₀ L g m → Fr g L' h₁ (bindL (envOfC qual scope L' f cdv).kindOf binds fun _ => none) → News g L' h₁ (cells ++ news) →
      CellsAre (bindC (envOfC qual scope L' f cdv).kindOf binds fun _ => none) (cellsFrom (L' + 1) scope.names []) cells → Below A base (env :: outer) g → K.In g → Top p loose mean mg mb g → (∀ p ∈ news, p.1 < L') →
      wpAny (model prog w) (A.deeper (envOfC qual scope L' f cdv)) (execs body (envOfC qual scope L' f cdv))
        (fun fl s' => LeaveT ((env :: outer).filterMap (·.frame)) A₀ base outer h₀ L m g R (match fl with | .ret v => v | _ => .none) s')
        (fun e s' => wpAny (model prog w) (A.deeper (envOfC qual scope L' f cdv)) (leaving (envOfC qual scope L' f cdv) e) (fun _ s'' => R (.error e) s'') (fun e' s'' => R (.error e') s'') s')
        { s with heap := h₁, toks := tk })
    (hco : scope.isCoroutine = false) (hgen : scope.isGenerator = false) (hk : scope.kind = .function) : codeAny (model prog w) A (.call (.ref f) args) R s := by
  obtain ⟨FG, BG, st, _⟩ := groundX (R := R) B F N hA hf hke
  refine codeAny_call_function hroom ((X₀.keeps F.keep) _ _ ho) rfl hco hgen rfl (codeRec_of (X₀.keeps F.keep) hcd) (hbind _ _ _ _ ?_)
  refine wpAny_newFunctionEnv_cells hk (kindsX hkind _) fun env' he s' x => ?_
  subst he
  refine ⟨(T.nolimit.keeps F.keep).keeps x.toInCall.keep, codeAny_func ?_⟩
  obtain ⟨h₁, tk, rfl, _⟩ := x.done
  have hk₁ := x.toInCall.keep
  obtain ⟨cells, NC, Y⟩ := Cl.news (h₀ := s.heap) (Nat.le_refl _) fun n c hm => ⟨x.cell n c (lookup_of_mem_nodup (cellsFrom_names scope.names 0 (s.heap.objs.size + 1) [] [] rfl ▸ hnd) hm), x.above n c hm⟩
  refine wpAny_mono (h _ s.heap.objs.size h₁ tk cells FG ⟨x.toInCall.ns, fun b o e => hk₁ b o (of_hideAll _ e), Nat.le_of_eq (hideAll_size _ _)⟩ (fun p hp => ?_) Y BG (X₀.keeps st) (T.keeps st) (fun p hp => Heap.lt_size (N p hp).1)) (fun fl s' hl => groundT B F N hf _ _ hl) fun _ _ y => y
  rcases List.mem_append.mp hp with hp | hp
  · refine ⟨(NC p hp).1, (NC p hp).2.1, ?_⟩
    cases q : (hideAll s.heap (news.map (·.1))).get? p.1 with
    | none => rfl
    | some o => have := of_hideAll _ q; rw [(NC p hp).2.2] at this; cases this
  · exact ⟨hk₁ _ _ (N p hp).1, Nat.ne_of_lt (Heap.lt_size (N p hp).1), hideAll_none _ (List.mem_map_of_mem hp)⟩
theorem fr_turn0 {h h₀' : Heap} {L : Addr} {m : Str → Option Value} (T : KtsTurn [] h₀ h₀') (F : Fr h₀' L h m) : Fr h₀ L h m := ⟨F.ns, fun b o e => F.keep b o (T.other b o e (by simp)), by rw [← T.size]; exact F.above⟩
theorem news_turn0 {h h₀' : Heap} {L : Addr} (T : KtsTurn [] h₀ h₀') (N : News h₀' L h news) : News h₀ L h news := fun q hq => ⟨(N q hq).1, (N q hq).2.1, by
  cases z : h₀.get? q.1 with
  | none => rfl
  | some o => have := T.other _ _ z (by simp); rw [(N q hq).2.2] at this; cases this⟩
end
end Mine
end
section
open PySem PySem.W PySem.Spec PySem.Calls PyProof.Rows PySem.SeqAt
open AutoSeq1 (wpAny_loadPart')
open MeetsSeq MeetsSeq2 MeetsSeq3 SeqRoads2


namespace Mine
theorem remove_loopAt (l : Addr) (items : Array Value) (n : Nat) (x : Value) (e : Value → Bool) (j : Nat) (hj : j < items.size) (hit : e items[j] = true) (k : Nat) (hs1 : items.size ≤ sizeLine) :
    ∀ i : Nat, j - i = k → i ≤ j → (∀ m (hm : m < items.size), i ≤ m → m < j → e items[m] = false) → Meets (Builtin.«list.remove.loop» ⟨[.ref l, x, rawInt i], []⟩)
      (fun A R s => s.heap.get? l = some { cls := .type "list", dict := none, data := .seq items n, slots := #[] } ∧ (∀ y, y ∈ items → EqAt A.in1 s y x (e y)) ∧ R (.ok (.ret .none)) { s with heap := s.heap.update l (Obj.mapSeq fun xs => xs.eraseIdxIfInBounds j) }) := by
  induction k with
  | zero =>
    intro i hk hij hno prog w A R s h
    obtain ⟨hp, g, d, tk, os⟩ := s; obtain ⟨hl, he, h⟩ := h
    have hij' : i = j := by omega
    subst hij'
    wp_walk using wpAny_loadPart' hl
    have hi : items[((i : Nat) : Int).toNat]? = some items[i] := by simp [hj]
    rw [hi]
    refine wpAny_bind (he _ (Array.getElem_mem hj) prog w _ _ ?_)
    rw [hit]
    have hz' : (items.eraseIdxIfInBounds i).size ≤ sizeLine + 1 := Nat.le_trans (size_erased items _) (Nat.le_succ_of_le hs1)
    wp_walk using (wpAny_updateSeq hl rfl (hz := hs1) (_hz' := hz')), wpAny_loadPart' hl
    simpa using h
  | succ k ih =>
    intro i hk hij hno prog w A R s h
    obtain ⟨hp, g, d, tk, os⟩ := s; obtain ⟨hl, he, h⟩ := h
    have hlt : i < items.size := by omega
    wp_walk using wpAny_loadPart' hl
    have hi : items[((i : Nat) : Int).toNat]? = some items[i] := by simp [hlt]
    have hc : ((i : Int) + 1) = ((i + 1 : Nat) : Int) := by push_cast; rfl
    rw [hi]
    refine wpAny_bind (he _ (Array.getElem_mem hlt) prog w _ _ ?_)
    rw [hno i hlt (Nat.le_refl _) (by omega)]
    wp_walk
    rw [hc]
    exact ⟨plainId_quiet plain_remove_loop _, codeAny_builtin entry_remove_loop (by
      rw [Around.under_plainId plain_remove_loop _]
      exact ih (i + 1) (by omega) (by omega) (fun m hm h1 h2 => hno m hm (by omega) h2) prog w A R _ ⟨hl, he, h⟩)⟩
theorem list_removeAt (l : Addr) (items : Array Value) (n : Nat) (x : Value) (e : Value → Bool) (j : Nat) (hj : j < items.size)
    (hit : e items[j] = true) (hno : ∀ m (hm : m < items.size), m < j → e items[m] = false) (hs1 : items.size ≤ sizeLine) :
    Meets (Builtin.«list.remove» ⟨[.ref l, x], []⟩)
      (fun A R s => s.heap.get? l = some { cls := .type "list", dict := none, data := .seq items n, slots := #[] } ∧ (∀ y, y ∈ items → EqAt A.in1 s y x (e y)) ∧ R (.ok (.ret .none)) { s with heap := s.heap.update l (Obj.mapSeq fun xs => xs.eraseIdxIfInBounds j) }) := by
  intro prog w A R s h
  obtain ⟨hp, g, d, tk, os⟩ := s; obtain ⟨hl, he, h⟩ := h
  wp_walk using wpAny_loadPart' hl
  exact ⟨plainId_quiet plain_remove_loop _, codeAny_builtin entry_remove_loop (by
    rw [Around.under_plainId plain_remove_loop _]
    exact remove_loopAt l items n x e j hj hit _ hs1 0 rfl (Nat.zero_le _) (fun m hm _ h2 => hno m hm h2) prog w A R _ ⟨hl, he, h⟩)⟩
theorem sub_tail {T tl : List (Addr × Obj)} {p : Addr × Obj} (h : ∀ p ∈ T, p ∈ tl) (hp : p ∈ T) : p ∈ tl := h p hp
theorem ne_lt0 {S : List (Addr × Obj)} {a x : Addr} {o : Obj} (h : ∀ p ∈ S, p.1 < x) (m : (a, o) ∈ S) : a ≠ x := Nat.ne_of_lt (h _ m)
theorem ne_ltS {a x : Addr} (h : a < x) : a < x + 1 := Nat.lt_succ_of_lt h
theorem lt_mem {S : List (Addr × Obj)} {a x : Addr} {o : Obj} (h : ∀ p ∈ S, p.1 < x) (m : (a, o) ∈ S) : a < x := h _ m
theorem ne_ofLt {a x : Addr} (h : a < x) : a ≠ x := Nat.ne_of_lt h
theorem fr_tail {S tl : List (Addr × Obj)} {x : Addr} (h : ∀ q ∈ S, q.1 ≠ x) (s : ∀ p ∈ tl, p ∈ S) : ∀ p ∈ tl, p.1 ≠ x := fun p hp => h p (s p hp)
theorem fr_one {S : List (Addr × Obj)} {a x : Addr} {o : Obj} (h : ∀ q ∈ S, q.1 ≠ x) (s : (a, o) ∈ S) : a ≠ x := h _ s
theorem news_sub {h₀ h : Heap} {L : Addr} {n1 n2 : List (Addr × Obj)} (N : News h₀ L h n1) (s : ∀ q ∈ n2, q ∈ n1) : News h₀ L h n2 := fun q hq => N q (s q hq)
/-- all of a tail are tuples -/
def TupTail (tl : List (Addr × Obj)) : Prop := ∀ p ∈ tl, p.2.cls = .type "tuple"
theorem TupTail.ne {tl news : List (Addr × Obj)} {h₀ h : Heap} {L d : Addr} {o : Obj} (x : TupTail tl) (N : News h₀ L h news) (s : ∀ p ∈ tl, p ∈ news) (hm : (d, o) ∈ news) (hc : o.cls ≠ .type "tuple") : ∀ p ∈ tl, p.1 ≠ d := fun p hp e => by
  have h1 := (N p (s p hp)).1
  have h2 := (N _ hm).1
  rw [e] at h1
  rw [h1] at h2
  have : p.2 = o := Option.some.inj h2
  exact hc (by rw [← this]; exact x p hp)
inductive Take (e : Addr) (o : Obj) : List (Addr × Obj) → List (Addr × Obj) → Prop
  | hit {l} : (∀ p ∈ l, p.1 ≠ e) → Take e o ((e, o) :: l) l
  | keep {p l l'} : p.1 ≠ e → Take e o l l' → Take e o (p :: l) (p :: l')
theorem Take.mem {e : Addr} {o : Obj} {l l' : List (Addr × Obj)} (x : Take e o l l') : (e, o) ∈ l := by
  induction x with
  | hit _ => exact .head _
  | keep _ _ ih => exact .tail _ ih
theorem Take.sub {e : Addr} {o : Obj} {l l' : List (Addr × Obj)} (x : Take e o l l') : ∀ q ∈ l', q ∈ l := by
  induction x with
  | hit _ => exact fun q hq => .tail _ hq
  | keep _ _ ih =>
    intro q hq
    rcases List.mem_cons.mp hq with rfl | hq
    · exact .head _
    · exact .tail _ (ih q hq)
theorem take_news {h₀ h : Heap} {L e : Addr} {o : Obj} {l l' S : List (Addr × Obj)} (N : News h₀ L h S) (x : Take e o l l') (s : ∀ q ∈ l, q ∈ S) : News h₀ L h ((e, o) :: l') ∧ ∀ q ∈ l', q ∈ S :=
  ⟨fun q hq => by
    rcases List.mem_cons.mp hq with rfl | hq
    · exact N _ (s _ x.mem)
    · exact N _ (s _ (x.sub q hq)), fun q hq => s q (x.sub q hq)⟩
theorem takes3 {h₀ h : Heap} {L e1 e2 e3 : Addr} {o1 o2 o3 : Obj} {l l1 l2 l3 : List (Addr × Obj)} (N : News h₀ L h l) (x1 : Take e1 o1 l l1) (x2 : Take e2 o2 l1 l2) (x3 : Take e3 o3 l2 l3) : News h₀ L h ((e1, o1) :: (e2, o2) :: (e3, o3) :: l3) :=
  news_sub N fun q hq => by
    rcases List.mem_cons.mp hq with rfl | hq
    · exact x1.mem
    rcases List.mem_cons.mp hq with rfl | hq
    · exact x1.sub _ x2.mem
    rcases List.mem_cons.mp hq with rfl | hq
    · exact x1.sub _ (x2.sub _ x3.mem)
    · exact x1.sub _ (x2.sub _ (x3.sub _ hq))
theorem takes5 {h₀ h : Heap} {L e1 e2 e3 e4 e5 : Addr} {o1 o2 o3 o4 o5 : Obj} {l l1 l2 l3 l4 l5 : List (Addr × Obj)} (N : News h₀ L h l) (x1 : Take e1 o1 l l1) (x2 : Take e2 o2 l1 l2) (x3 : Take e3 o3 l2 l3) (x4 : Take e4 o4 l3 l4) (x5 : Take e5 o5 l4 l5) :
    News h₀ L h ((e1, o1) :: (e2, o2) :: (e3, o3) :: (e4, o4) :: (e5, o5) :: l5) :=
  news_sub N fun q hq => by
    rcases List.mem_cons.mp hq with rfl | hq
    · exact x1.mem
    rcases List.mem_cons.mp hq with rfl | hq
    · exact x1.sub _ x2.mem
    rcases List.mem_cons.mp hq with rfl | hq
    · exact x1.sub _ (x2.sub _ x3.mem)
    rcases List.mem_cons.mp hq with rfl | hq
    · exact x1.sub _ (x2.sub _ (x3.sub _ x4.mem))
    rcases List.mem_cons.mp hq with rfl | hq
    · exact x1.sub _ (x2.sub _ (x3.sub _ (x4.sub _ x5.mem)))
    · exact x1.sub _ (x2.sub _ (x3.sub _ (x4.sub _ (x5.sub _ hq))))
/-- one place ahead of another in a list -/
inductive Bef (a b : Addr) : List Addr → Prop
  | hd {l} : b ∈ l → Bef a b (a :: l)
  | tl {c l} : Bef a b l → Bef a b (c :: l)
theorem Bef.ne {a b : Addr} {l : List Addr} (x : Bef a b l) (h : l.Nodup) : a ≠ b := by
  induction x with
  | hd hb => exact fun e => (List.nodup_cons.mp h).1 (e ▸ hb)
  | tl _ ih => exact ih (List.nodup_cons.mp h).2
theorem ne_bef {a b : Addr} {l : List Addr} (h : l.Nodup) (x : Bef a b l) : a ≠ b := x.ne h
section
variable {prog : Program} {w : World} {A : Around} {E : Value → Shared → Prop} {s : Shared} {h₀ : Heap} {L D : Addr} {m : Str → Option Value} {news news' : List (Addr × Obj)} {vs : List Value} {ds : List PyData} {x : Value} {d : PyData} {n : Nat} {as bs : List Addr}
theorem remove_T {j : Nat} {Q : Value → Shared → Prop} (F : Fr h₀ L s.heap m) (N : News h₀ L s.heap news) (U : Upd D (listOf vs.toArray n) (listOf (vs.eraseIdx j).toArray (n + 1)) news news')
    (rs : ReadsAll s.heap vs ds as) (rx : Reads s.heap x d bs) (hl : PyData.canLayAll0 ds = true) (hx : d.canLay0 = true) (hdep : PyData.depthAll ds ≤ 5) (hz : vs.length ≤ 200) (hj : j < ds.length) (hit : PyData.eqv ds[j] d = true) (hno : ∀ i (hi : i < ds.length), i < j → PyData.eqv ds[i] d = false) (hu : A.units + 20 < cLine)
    (h : ∀ h', Fr h₀ L h' m → News h₀ L h' news' → Q .none { s with heap := h' }) : wpAny (model prog w) A (call (.builtin "list.remove") [.ref D, x]) Q E s := by
  obtain ⟨pre, post, rfl, rfl, a', b'⟩ := U.split
  have z := N (D, listOf vs.toArray n) (List.mem_append.mpr (.inr (.head _)))
  have hlen := SeqAt.ReadsAll.length _ _ _ rs
  have hmap := readsAll_map ds vs as hl rs
  have hz' : vs.toArray.size ≤ sizeLine := my_fits hz
  have he := items_eqAt (A := A) (vs := vs.toArray) (by simpa using rs) rx hl hx (by have := Nat.min_le_left (PyData.depthAll ds) d.depth; omega)
  have at_ : ∀ i (h1 : i < vs.length) (h2 : i < ds.length), readOf s.heap vs[i] = ds[i] := fun i h1 h2 => by
    subst hmap
    simp
  refine call_meets PySem.F.slot_list_remove ⟨_, z.1, rfl⟩ PySem.F.entry_list_remove (PySem.F.args_list_remove_2 _ _)
    (list_removeAt D vs.toArray n x (fun y => PyData.eqv (readOf s.heap y) d) j (by simp; omega) ?_ ?_ hz') ⟨z.1, he, h _ (F.change (Heap.SameBut.update ..) z.2.1 z.2.2) (ki_turn _ N a' b' ?_ ?_)⟩
  · simp only [List.getElem_toArray]
    rw [at_ j (by omega) hj]; exact hit
  · intro i hi hlt
    simp only [List.size_toArray] at hi
    simp only [List.getElem_toArray]
    rw [at_ i hi (by omega)]; exact hno i (by omega) hlt
  · apply Array.toList_inj.mp
    simp [Array.toList_eraseIdxIfInBounds]
  · have : (vs.eraseIdx j).toArray.size ≠ vs.toArray.size := by simp only [List.size_toArray, List.length_eraseIdx]; split <;> omega
    rw [if_neg (by simpa using this)]
end
theorem readsAll_erase {h : Heap} : ∀ {vs : List Value} {ds : List PyData} (j : Nat), ReadsAll h vs ds [] → ReadsAll h (vs.eraseIdx j) (ds.eraseIdx j) []
  | [], [], _, _ => .nil
  | v :: vs, d :: ds, j, r => by
    generalize hq : ([] : List Addr) = q at r
    cases r with
    | @cons _ _ _ _ as bs a b =>
      cases as with
      | cons _ _ => cases hq
      | nil =>
        cases bs with
        | cons _ _ => cases hq
        | nil =>
          cases j with
          | zero => exact b
          | succ j => exact .cons (as := []) a (readsAll_erase j b)
  | [], _ :: _, _, r => nomatch r
  | _ :: _, [], _, r => nomatch r
theorem LReads.erase {tl : List (Addr × Obj)} {vs : List Value} {ds : List PyData} (j : Nat) (x : LReads tl vs ds) : LReads tl (vs.eraseIdx j) (ds.eraseIdx j) := fun h k => readsAll_erase j (x h k)

/-- a row of who waits, its tuple in the tail -/
def RowIn (enc : Int → PyData) (tl : List (Addr × Obj)) (v : Value) (r : Int × Int) : Prop := ∃ R p t n, v = .ref R ∧ (R, ({ cls := .type "tuple", data := .seq #[.ref p, .int r.2 t] n } : Obj)) ∈ tl ∧ LRead tl (.ref p) (enc r.1)
inductive RowsIn (enc : Int → PyData) (tl : List (Addr × Obj)) : List Value → List (Int × Int) → Prop
  | nil : RowsIn enc tl [] []
  | cons {v ws r rows} : RowIn enc tl v r → RowsIn enc tl ws rows → RowsIn enc tl (v :: ws) (r :: rows)
section
variable {enc : Int → PyData} {tl tl' : List (Addr × Obj)} {ws : List Value} {rows : List (Int × Int)} {v : Value} {r : Int × Int}
theorem RowIn.more (x : RowIn enc tl v r) (s : ∀ p ∈ tl, p ∈ tl') : RowIn enc tl' v r := let ⟨R, p, t, n, a, b, c⟩ := x; ⟨R, p, t, n, a, s _ b, c.more s⟩
theorem RowsIn.more (x : RowsIn enc tl ws rows) (s : ∀ p ∈ tl, p ∈ tl') : RowsIn enc tl' ws rows := by
  induction x with
  | nil => exact .nil
  | cons a _ ih => exact .cons (a.more s) ih
theorem RowIn.read (x : RowIn enc tl v r) : LRead tl v (rowE enc r) := by
  obtain ⟨R, p, t, n, rfl, b, c⟩ := x
  exact LRead.tuple (n := n) (xs := [.ref p, .int r.2 t]) (.cons c (.cons .int .nil)) b
theorem RowsIn.reads : ∀ {ws : List Value} {rows : List (Int × Int)}, RowsIn enc tl ws rows → LReads tl ws (rows.map (rowE enc))
  | _, _, .nil => .nil
  | _, _, .cons a b => .cons a.read (RowsIn.reads b)
theorem RowsIn.length : ∀ {ws : List Value} {rows : List (Int × Int)}, RowsIn enc tl ws rows → ws.length = rows.length
  | _, _, .nil => rfl
  | _, _, .cons _ b => by simp [RowsIn.length b]
theorem RowsIn.at : ∀ {ws : List Value} {rows : List (Int × Int)} {i : Nat} {v : Value}, RowsIn enc tl ws rows → ws[i]? = some v → ∃ r, rows[i]? = some r ∧ RowIn enc tl v r
  | _, _, 0, _, .cons a _, e => by simp only [List.getElem?_cons_zero, Option.some.injEq] at e ⊢; subst e; exact ⟨_, rfl, a⟩
  | _, _, i + 1, _, .cons _ b, e => by simp only [List.getElem?_cons_succ] at e ⊢; exact RowsIn.at b e
theorem RowsIn.append : ∀ {ws us : List Value} {rows qs : List (Int × Int)}, RowsIn enc tl ws rows → RowsIn enc tl us qs → RowsIn enc tl (ws ++ us) (rows ++ qs)
  | _, _, _, _, .nil, y => y
  | _, _, _, _, .cons a b, y => .cons a (RowsIn.append b y)
theorem RowsIn.erase : ∀ {ws : List Value} {rows : List (Int × Int)} (j : Nat), RowsIn enc tl ws rows → RowsIn enc tl (ws.eraseIdx j) (rows.eraseIdx j)
  | _, _, _, .nil => .nil
  | _, _, 0, .cons _ b => b
  | _, _, j + 1, .cons a b => .cons a (RowsIn.erase j b)
theorem row_eqv (I : Enc enc) (a b : Int × Int) : PyData.eqv (rowE enc a) (rowE enc b) = decide (a = b) := by
  show PyData.eqvAll [enc a.1, .int a.2] [enc b.1, .int b.2] = _
  obtain ⟨a1, a2⟩ := a
  obtain ⟨b1, b2⟩ := b
  simp only [PyData.eqvAll, I.inj, PyData.eqv, Bool.and_true, Prod.mk.injEq]
  by_cases h1 : a1 = b1 <;> by_cases h2 : a2 = b2 <;> simp [h1, h2]
end
section
variable {prog : Program} {w : World} {A : Around} {E : Value → Shared → Prop} {s : Shared} {h₀ : Heap} {L D : Addr} {m : Str → Option Value} {tl news news' : List (Addr × Obj)} {vs : List Value} {x : Value} {n : Nat} {enc : Int → PyData}
theorem remove_held {held : List Int} {k : Int} {Q : Value → Shared → Prop} (I : Enc enc) (F : Fr h₀ L s.heap m) (N : News h₀ L s.heap news) (rs : LReads tl vs (held.map enc)) (q : ∀ p ∈ tl, p ∈ news) (rx : Reads s.heap x (enc k) []) (hmem : held.contains k = true)
    (U : Upd D (listOf vs.toArray n) (listOf (vs.eraseIdx (held.idxOf k)).toArray (n + 1)) news news') (hz : vs.length ≤ 200) (hu : A.units + 20 < cLine)
    (h : ∀ h', Fr h₀ L h' m → News h₀ L h' news' → Q .none { s with heap := h' }) : wpAny (model prog w) A (call (.builtin "list.remove") [.ref D, x]) Q E s := by
  have hm : k ∈ held := by simpa using hmem
  have hlt : held.idxOf k < held.length := List.idxOf_lt_length_iff.mpr hm
  refine remove_T F N U (rs.here N q) rx (okDs_lay _ (okDs_map I.ok held)) (okD_lay _ (I.ok k)) (Nat.le_trans (depthAll_map I.dep held) (by omega)) hz (by simpa using hlt) ?_ ?_ hu h
  · simp [I.inj]
  · intro i hi hlt'
    simp only [List.length_map] at hi
    simp only [List.getElem_map, I.inj]
    have := List.not_of_lt_findIdx hlt'
    simpa using this
theorem remove_row {pre post : List (Int × Int)} {k g : Int} {Q : Value → Shared → Prop} (I : Enc enc) (F : Fr h₀ L s.heap m) (N : News h₀ L s.heap news) (rs : RowsIn enc tl vs (pre ++ (k, g) :: post)) (q : ∀ p ∈ tl, p ∈ news)
    (rx : RowIn enc tl x (k, g)) (hpre : ∀ r ∈ pre, r.1 ≠ k)
    (U : Upd D (listOf vs.toArray n) (listOf (vs.eraseIdx pre.length).toArray (n + 1)) news news') (hz : vs.length ≤ 200) (hu : A.units + 20 < cLine)
    (h : ∀ h', Fr h₀ L h' m → News h₀ L h' news' → Q .none { s with heap := h' }) : wpAny (model prog w) A (call (.builtin "list.remove") [.ref D, x]) Q E s := by
  refine remove_T F N U (rs.reads.here N q) (rx.read.here N q) (okDs_lay _ (okDs_map (row_ok I) _)) (okD_lay _ (row_ok I _)) (Nat.le_trans (depthAll_map (row_dep I) _) (by omega)) hz (by simp) ?_ ?_ hu h
  · simp [row_eqv I]
  · intro i hi hlt'
    simp only [List.getElem_map, row_eqv I, decide_eq_false_iff_not]
    intro e
    rw [List.getElem_append_left hlt'] at e
    exact hpre _ (List.getElem_mem hlt') (by rw [e])
end
section
variable {prog : Program} {w : World} {A : Around} {E : Value → Shared → Prop} {s : Shared} {x y : Value} {enc : Int → PyData} {as bs : List Addr}
theorem eq_enc {j k : Int} {b : Bool} {Q : Value → Shared → Prop} (I : Enc enc) (rx : Reads s.heap x (enc j) as) (ry : Reads s.heap y (enc k) bs) (hb : decide (j = k) = b) (hu : A.units + 64 < cLine)
    (h : Q (.bool b) s) : wpAny (model prog w) A (compareOp .Eq x y) Q E s := by
  have sh : ∀ i, shaped (enc i) = true := fun i => by
    have h1 := okD_lay _ (I.ok i)
    have h2 := I.dep i
    unfold shaped
    rw [h1, Bool.true_and, decide_eq_true_eq]
    omega
  exact eq_dataH rx ry (sh j) (sh k) hu (by rw [I.inj, hb]; exact h)
theorem ne_enc {j k : Int} {b : Bool} {Q : Value → Shared → Prop} (I : Enc enc) (rx : Reads s.heap x (enc j) as) (ry : Reads s.heap y (enc k) bs) (hb : decide (j = k) = b) (hu : A.units + 64 < cLine)
    (h : Q (.bool (!b)) s) : wpAny (model prog w) A (compareOp .NotEq x y) Q E s := by
  have sh : ∀ i, shaped (enc i) = true := fun i => by
    have h1 := okD_lay _ (I.ok i)
    have h2 := I.dep i
    unfold shaped
    rw [h1, Bool.true_and, decide_eq_true_eq]
    omega
  exact ne_dataH rx ry (sh j) (sh k) hu (by rw [I.inj, hb]; exact h)
end
theorem LReads.snoc {α : Type} {f : α → PyData} {tl : List (Addr × Obj)} {vs : List Value} {v : Value} {ks : List α} {k : α} (x : LReads tl vs (ks.map f)) (y : LRead tl v (f k)) : LReads tl (vs ++ [v]) ((ks ++ [k]).map f) := by
  rw [List.map_append]
  exact x.append (.cons y .nil)
theorem map_eraseIdx {α β : Type} (f : α → β) : ∀ (ks : List α) (j : Nat), (ks.eraseIdx j).map f = (ks.map f).eraseIdx j
  | [], _ => rfl
  | _ :: _, 0 => rfl
  | a :: r, j + 1 => by
    show f a :: (r.eraseIdx j).map f = f a :: (r.map f).eraseIdx j
    rw [map_eraseIdx f r j]
theorem LReads.eraseM {α : Type} {f : α → PyData} {tl : List (Addr × Obj)} {vs : List Value} {ks : List α} (j : Nat) (x : LReads tl vs (ks.map f)) : LReads tl (vs.eraseIdx j) ((ks.eraseIdx j).map f) := by
  have e := map_eraseIdx f ks j
  rw [e]
  exact x.erase j
theorem RowsIn.snoc {enc : Int → PyData} {tl : List (Addr × Obj)} {ws : List Value} {rows : List (Int × Int)} {v : Value} {r : Int × Int} (x : RowsIn enc tl ws rows) (y : RowIn enc tl v r) : RowsIn enc tl (ws ++ [v]) (rows ++ [r]) := x.append (.cons y .nil)
theorem reads_K {K : Frag} {h₀ h : Heap} {L a : Addr} {m : Str → Option Value} {o : Obj} {vs : Array Value} {n : Nat} {ds : List PyData} {as : List Addr} (X : K.In h₀) (F : Fr h₀ L h m) (l : K.lookup a = some o) (c : o.cls = .type "tuple") (d : o.data = .seq vs n) (r : ReadsAll h vs.toList ds as) : Reads h (.ref a) (.tuple ds) as :=
  .tuple (F.keep _ _ (X _ _ l)) c d r
theorem eq_lit {prog : Program} {w : World} {A : Around} {E : Value → Shared → Prop} {s : Shared} {x y : Value} {dx dy : PyData} {as bs : List Addr} {Q : Value → Shared → Prop} (b : Bool) (rx : Reads s.heap x dx as) (ry : Reads s.heap y dy bs) (hx : shaped dx = true) (hy : shaped dy = true) (hb : PyData.eqv dx dy = b) (hu : A.units + 64 < cLine)
    (h : Q (.bool b) s) : wpAny (model prog w) A (compareOp .Eq x y) Q E s := eq_dataH rx ry hx hy hu (by rw [hb]; exact h)
end Mine
end
section
open PySem PySem.W PySem.Spec PySem.Calls PyProof.Rows PySem.SeqAt


namespace Mine
theorem okDs_ints : ∀ q : List Int, okDs (q.map .int) = true
  | [] => rfl
  | x :: r => by simp only [List.map_cons, okDs, okDs_ints r, Bool.and_true]; rfl
theorem dep_ints : ∀ q : List Int, PyData.depthAll (q.map .int) ≤ 1
  | [] => Nat.zero_le _
  | x :: r => by simp only [List.map_cons, PyData.depthAll]; have := dep_ints r; have : (PyData.int x).depth = 0 := rfl; omega
theorem any_ints (k : Int) : ∀ q : List Int, ((q.map PyData.int).any fun y => PyData.eqv y (.int k)) = q.contains k
  | [] => rfl
  | x :: r => by
    simp only [List.map_cons, List.any_cons, any_ints k r, List.contains_cons, PyData.eqv]
    have : (x == k) = (k == x) := by
      by_cases h : x = k
      · subst h; rfl
      · have h2 : ¬ k = x := fun e => h e.symm
        rw [beq_eq_false_iff_ne.mpr h, beq_eq_false_iff_ne.mpr h2]
    rw [this]
section
variable {prog : Program} {w : World} {A : Around} {E : Value → Shared → Prop} {s : Shared} {h₀ : Heap} {L D : Addr} {m : Str → Option Value} {tl news news' : List (Addr × Obj)} {vs : List Value} {v : Value} {n : Nat}
theorem pop0_T {t : Tok} {Q : Value → Shared → Prop} (F : Fr h₀ L s.heap m) (N : News h₀ L s.heap news) (U : Upd D (listOf (v :: vs).toArray n) (listOf vs.toArray (n + 1)) news news') (hz : (v :: vs).length ≤ 200)
    (h : ∀ h', Fr h₀ L h' m → News h₀ L h' news' → Q v { s with heap := h' }) : wpAny (model prog w) A (call (.builtin "list.pop") [.ref D, .int 0 t]) Q E s := by
  obtain ⟨pre, post, rfl, rfl, a', b'⟩ := U.split
  have z := N (D, listOf (v :: vs).toArray n) (List.mem_append.mpr (.inr (.head _)))
  refine call_meets PySem.F.slot_list_pop ⟨_, z.1, rfl⟩ PySem.F.entry_list_pop (PySem.F.args_list_pop_2 _ _)
    (MeetsSeq.list_pop_at D (v :: vs).toArray n 0 t 0 v (by decide) (by simp [seqIndex?]) (by simp) (my_fits hz)) ⟨z.1, h _ (F.change (Heap.SameBut.update ..) z.2.1 z.2.2) (ki_turn _ N a' b' ?_ ?_)⟩
  · apply Array.toList_inj.mp
    simp [Array.toList_eraseIdxIfInBounds]
  · have : vs.toArray.size ≠ (v :: vs).toArray.size := by simp
    rw [if_neg (by simpa using this)]
theorem in_ints {q : List Int} {k : Int} {t : Tok} {b : Bool} {Q : Value → Shared → Prop} (N : News h₀ L s.heap news) (hm : (D, listOf vs.toArray n) ∈ news) (rs : LReads tl vs (q.map .int)) (sub : ∀ p ∈ tl, p ∈ news) (hb : q.contains k = b) (hu : A.units + 8 < cLine)
    (h : Q (.bool b) s) : wpAny (model prog w) A (compareOp .In (.int k t) (.ref D)) Q E s := by
  have hd := dep_ints q
  refine SeqAt.in_list_reads (reads_list_at (N.get hm) rfl rfl (rs.here N sub)) (.int k t) (okDs_lay _ (okDs_ints q)) rfl (by omega) ?_
  rw [any_ints, hb]
  exact h
theorem notIn_ints {q : List Int} {k : Int} {t : Tok} {b : Bool} {Q : Value → Shared → Prop} (N : News h₀ L s.heap news) (hm : (D, listOf vs.toArray n) ∈ news) (rs : LReads tl vs (q.map .int)) (sub : ∀ p ∈ tl, p ∈ news) (hb : q.contains k = b) (hu : A.units + 8 < cLine)
    (h : Q (.bool (!b)) s) : wpAny (model prog w) A (compareOp .NotIn (.int k t) (.ref D)) Q E s := by
  have hd := dep_ints q
  refine SeqAt.notIn_list_reads (reads_list_at (N.get hm) rfl rfl (rs.here N sub)) (.int k t) (okDs_lay _ (okDs_ints q)) rfl (by omega) ?_
  rw [any_ints, hb]
  exact h
theorem remove_int {q : List Int} {k : Int} {t : Tok} {Q : Value → Shared → Prop} (F : Fr h₀ L s.heap m) (N : News h₀ L s.heap news) (rs : LReads tl vs (q.map .int)) (sub : ∀ p ∈ tl, p ∈ news) (hmem : q.contains k = true)
    (U : Upd D (listOf vs.toArray n) (listOf (vs.eraseIdx (q.idxOf k)).toArray (n + 1)) news news') (hz : vs.length ≤ 200) (hu : A.units + 20 < cLine)
    (h : ∀ h', Fr h₀ L h' m → News h₀ L h' news' → Q .none { s with heap := h' }) : wpAny (model prog w) A (call (.builtin "list.remove") [.ref D, .int k t]) Q E s := by
  have hm : k ∈ q := by simpa using hmem
  have hlt : q.idxOf k < q.length := List.idxOf_lt_length_iff.mpr hm
  refine remove_T F N U (rs.here N sub) (.int k t) (okDs_lay _ (okDs_ints q)) rfl (Nat.le_trans (dep_ints q) (by omega)) hz (by simpa using hlt) ?_ ?_ hu h
  · simp [PyData.eqv]
  · intro i hi hlt'
    simp only [List.length_map] at hi
    simp only [List.getElem_map, PyData.eqv]
    have := List.not_of_lt_findIdx hlt'
    simpa using this
end
end Mine
end
section
open PySem PySem.W PySem.Spec PySem.Calls PyProof.Rows PySem.SeqAt
open PyProof.Rows.LCg PyProof.Rows.LCt


namespace Mine
theorem off1_mem {D : Addr} : ∀ {l : List (Addr × Obj)}, LCg.Off1 D l → ∀ p ∈ l, p.1 ≠ D
  | [], _, _, h => nomatch h
  | _ :: _, x, p, h => by
    rcases List.mem_cons.mp h with rfl | h
    · exact x.1
    · exact off1_mem x.2 p h
inductive Rel2 {α : Type} (G : Value → α → Prop) : List Value → List α → Prop
  | nil : Rel2 G [] []
  | cons {y ys r rs} : G y r → Rel2 G ys rs → Rel2 G (y :: ys) (r :: rs)
theorem RowsIn.rel {enc : Int → PyData} {tl : List (Addr × Obj)} : ∀ {ws rows}, RowsIn enc tl ws rows → Rel2 (RowIn enc tl) ws rows
  | _, _, .nil => .nil
  | _, _, .cons a b => .cons a b.rel
theorem Rel2.rows {enc : Int → PyData} {tl : List (Addr × Obj)} : ∀ {ws rows}, Rel2 (RowIn enc tl) ws rows → RowsIn enc tl ws rows
  | _, _, .nil => .nil
  | _, _, .cons a b => .cons a b.rows
theorem Rel2.length {α : Type} {G : Value → α → Prop} : ∀ {ws : List Value} {rows : List α}, Rel2 G ws rows → ws.length = rows.length
  | _, _, .nil => rfl
  | _, _, .cons _ b => by simp [Rel2.length b]
theorem Rel2.ints {tl : List (Addr × Obj)} : ∀ {ys : List Value} {rows : List (Int × Int)}, Rel2 (fun y r => ∃ t, y = .int r.2 t) ys rows → LReads tl ys ((rows.map (·.2)).map .int)
  | _, _, .nil => .nil
  | _, _, .cons ⟨_, e⟩ b => by subst e; exact .cons .int b.ints
theorem Rel2.intsL {tl : List (Addr × Obj)} : ∀ {ys : List Value} {q : List Int}, Rel2 (fun y (r : Int) => ∃ t, y = .int r t) ys q → LReads tl ys (q.map .int)
  | _, _, .nil => .nil
  | _, _, .cons ⟨_, e⟩ b => by subst e; exact .cons .int b.intsL
section
variable {α : Type} {prog : Program} {w : World} {A : Around} {s : Shared} {h₀ : Heap} {L : Addr} {m : Str → Option Value} {env : Env} {ct elt : Expr} {x : Str} {scope : Scope} {cl : List (Str × Addr)} {S : List (Addr × Obj) → Prop} {its : Array Value} {Fin : List Value → List (Addr × Obj) → Prop} {news : List (Addr × Obj)} {f : α → Bool} {G0 G : Value → α → Prop}
/-- the turns of a list comprehension with a test that only looks -/
theorem comp_rows (hS : S news)
    (turn : ∀ v r I oI C oC D ys m₂ h tk (E' : Value → Shared → Prop), G0 v r → NsObj oC m₂ → m₂ x = some v → Fr h₀ L h m → News h₀ L h ((I, oI) :: (C, oC) :: (D, lst ys) :: news) →
      wpAny (model prog w) A (isTrue ct (compEnvC scope cl C env) (eval ct (compEnvC scope cl C env))) (fun ok s' => if ok = true then f r = true ∧
        wpAny (model prog w) A (eval elt (compEnvC scope cl C env)) (fun y s'' => G y r ∧ ∃ tk', s'' = { s with heap := h, toks := tk' }) E' s' else f r = false ∧ ∃ tk', s' = { s with heap := h, toks := tk' }) E' { s with heap := h, toks := tk }) :
    ∀ (us : List Value) (rs : List α), Rel2 G0 us rs → ∀ (i : Nat) (ys : List Value), (∀ j, its[i + j]? = us[j]?) → (∀ zs, Rel2 G zs (rs.filter f) → Fin (ys ++ zs) news) →
      CompRestT prog w A h₀ L m env ct elt x scope cl s S (fun i v => its[i]? = some v) Fin us.length i ys news
  | _, _, .nil, i, ys, _, fin => CompRestT.zero (by simpa using fin [] .nil)
  | v0 :: us, r :: rs, .cons hr hrs, i, ys, hi, fin => by
    refine CompRestT.succ ?_
    intro v I oI C oC D m₂ h tk E' hP hC hx F N off ne
    have hv : v = v0 := by
      have := hi 0
      simp only [Nat.add_zero, List.getElem?_cons_zero] at this
      rw [this] at hP
      exact (Option.some.inj hP).symm
    subst hv
    have hi' : ∀ j, its[i + 1 + j]? = us[j]? := fun j => by
      have := hi (j + 1)
      simp only [List.getElem?_cons_succ] at this
      rw [← this, Nat.add_assoc, Nat.add_comm 1 j]
    refine wpAny_mono (turn v r I oI C oC D ys m₂ h tk E' hr hC hx F N) (fun ok s' hok => ?_) fun _ _ e => e
    cases ok with
    | true =>
      simp only [if_true] at hok ⊢
      obtain ⟨hf, hok⟩ := hok
      refine wpAny_mono hok (fun y s'' hy => ?_) fun _ _ e => e
      obtain ⟨hG, tk', rfl⟩ := hy
      refine ⟨h, tk', news, rfl, F, N, off, hS, comp_rows hS turn _ _ hrs (i + 1) (ys ++ [y]) hi' fun zs hz => ?_⟩
      rw [List.append_assoc]
      refine fin (y :: zs) ?_
      rw [List.filter_cons, if_pos hf]
      exact .cons hG hz
    | false =>
      simp only [Bool.false_eq_true, if_false] at hok ⊢
      obtain ⟨hf, tk', rfl⟩ := hok
      refine ⟨h, tk', news, rfl, F, N, off, hS, comp_rows hS turn _ _ hrs (i + 1) ys hi' fun zs hz => ?_⟩
      refine fin zs ?_
      rw [List.filter_cons, if_neg (by rw [hf]; decide)]
      exact hz
/-- what a test or an item that may have made something leaves: all that was in the ledger stands -/
def StaysAt (h₀ : Heap) (L : Addr) (m : Str → Option Value) (s : Shared) (nw : List (Addr × Obj)) (s' : Shared) : Prop := ∃ h' tk', s' = { s with heap := h', toks := tk' } ∧ Fr h₀ L h' m ∧ News h₀ L h' nw
/-- the turns of a list comprehension whose test may make something (a call) -/
theorem comp_rowsC (hS : S news)
    (turn : ∀ v r I oI C oC D ys m₂ h tk (E' : Value → Shared → Prop), G0 v r → NsObj oC m₂ → m₂ x = some v → Fr h₀ L h m → News h₀ L h ((I, oI) :: (C, oC) :: (D, lst ys) :: news) → Off3 I C D news → ((@Ne Nat I C) ∧ (@Ne Nat I D) ∧ (@Ne Nat C D)) →
      wpAny (model prog w) A (isTrue ct (compEnvC scope cl C env) (eval ct (compEnvC scope cl C env))) (fun ok s' => if ok = true then f r = true ∧
        wpAny (model prog w) A (eval elt (compEnvC scope cl C env)) (fun y s'' => G y r ∧ StaysAt h₀ L m s ((I, oI) :: (C, oC) :: (D, lst ys) :: news) s'') E' s' else f r = false ∧ StaysAt h₀ L m s ((I, oI) :: (C, oC) :: (D, lst ys) :: news) s') E' { s with heap := h, toks := tk }) :
    ∀ (us : List Value) (rs : List α), Rel2 G0 us rs → ∀ (i : Nat) (ys : List Value), (∀ j, its[i + j]? = us[j]?) → (∀ zs, Rel2 G zs (rs.filter f) → Fin (ys ++ zs) news) →
      CompRestT prog w A h₀ L m env ct elt x scope cl s S (fun i v => its[i]? = some v) Fin us.length i ys news
  | _, _, .nil, i, ys, _, fin => CompRestT.zero (by simpa using fin [] .nil)
  | v0 :: us, r :: rs, .cons hr hrs, i, ys, hi, fin => by
    refine CompRestT.succ ?_
    intro v I oI C oC D m₂ h tk E' hP hC hx F N off ne
    have hv : v = v0 := by
      have := hi 0
      simp only [Nat.add_zero, List.getElem?_cons_zero] at this
      rw [this] at hP
      exact (Option.some.inj hP).symm
    subst hv
    have hi' : ∀ j, its[i + 1 + j]? = us[j]? := fun j => by
      have := hi (j + 1)
      simp only [List.getElem?_cons_succ] at this
      rw [← this, Nat.add_assoc, Nat.add_comm 1 j]
    refine wpAny_mono (turn v r I oI C oC D ys m₂ h tk E' hr hC hx F N off ne) (fun ok s' hok => ?_) fun _ _ e => e
    cases ok with
    | true =>
      simp only [if_true] at hok ⊢
      obtain ⟨hf, hok⟩ := hok
      refine wpAny_mono hok (fun y s'' hy => ?_) fun _ _ e => e
      obtain ⟨hG, h', tk', rfl, F', N'⟩ := hy
      refine ⟨h', tk', news, rfl, F', N', off, hS, comp_rowsC hS turn _ _ hrs (i + 1) (ys ++ [y]) hi' fun zs hz => ?_⟩
      rw [List.append_assoc]
      refine fin (y :: zs) ?_
      rw [List.filter_cons, if_pos hf]
      exact .cons hG hz
    | false =>
      simp only [Bool.false_eq_true, if_false] at hok ⊢
      obtain ⟨hf, h', tk', rfl, F', N'⟩ := hok
      refine ⟨h', tk', news, rfl, F', N', off, hS, comp_rowsC hS turn _ _ hrs (i + 1) ys hi' fun zs hz => ?_⟩
      refine fin zs ?_
      rw [List.filter_cons, if_neg (by rw [hf]; decide)]
      exact hz
end
end Mine
end
section
open PySem PySem.W PySem.Calls PyProof.Rows PySem.Spec


namespace Mine
/-- a place as data -/
abbrev enc1 (k : Int) : PyData := .tuple [.str "cell", .int k, .tuple []]
theorem enc1I : Enc enc1 where
  ok := fun k => by
    show (PyData.strOk (Str.ofString "cell") && (true && (true && true))) = true
    decide +kernel
  dep := fun k => (show max 0 (max 0 (max (0 + 1) 0)) + 1 ≤ 3 by decide)
  inj := fun a b => by
    simp only [PyData.eqv, PyData.eqvAll, Bool.and_true, Bool.true_and, beq_self_eq_true]
    by_cases h : a = b <;> simp [h]
abbrev tyKey (P : Params) (x : Str) (t : Tok) (v : Value) : DictEntry := ⟨PyData.keyHash P x, .str x t, v⟩
def kindOf (o : Obj) : Nat := match o.cls with
  | .type t => if t == "list" then 1 else if t == "dict" then 2 else if t == "tuple" then 3 else 0
  | .ref a => a + 10
  | _ => 4
theorem news_ne {h₀ h : Heap} {L a b : Addr} {news : List (Addr × Obj)} {o o' : Obj} (N : News h₀ L h news) (ha : (a, o) ∈ news) (hb : (b, o') ∈ news) (hne : Nat.beq (kindOf o) (kindOf o') = false) : a ≠ b := fun e => by
  subst e
  have := Option.some.inj ((N _ ha).1.symm.trans (N _ hb).1)
  subst this
  rw [Nat.beq_refl] at hne
  cases hne
theorem nt_list : (Value.type "list") ≠ Value.type "tuple" := by decide
theorem nt_dict : (Value.type "dict") ≠ Value.type "tuple" := by decide
theorem nt_ref {a : Addr} : (Value.ref a) ≠ Value.type "tuple" := by intro h; cases h
theorem lread_place {D1 D2 : Addr} {k : Int} {t ta : Tok} {T0 : List (Addr × Obj)} : LRead ((D1, { cls := .type "tuple", data := .seq #[.str "cell" t, .int k ta, .ref D2] }) :: (D2, { cls := .type "tuple", data := .seq #[] }) :: T0) (.ref D1) (enc1 k) :=
  LRead.tuple (n := 0) (xs := [.str "cell" t, .int k ta, .ref D2]) (.cons .str (.cons .int (.cons (LRead.tuple (n := 0) (xs := []) .nil (.tail _ (.head _))) .nil))) (.head _)
abbrev pgD (P : Params) (t4 t5 t6 : Tok) (hl dc wl : Addr) : Obj := dictOf [tyKey P "held" t4 (.ref hl), tyKey P "counts" t5 (.ref dc), tyKey P "waiting" t6 (.ref wl)] 3

end Mine
end
section
open PySem PySem.W PySem.Spec PySem.Calls PyProof.Rows PySem.SeqAt
open PyProof.Rows.LCg PyProof.Rows.LCt


namespace Mine
section
variable {prog : Program} {w : World} {A : Around} {E : Value → Shared → Prop} {s : Shared} {env : Env} {h₀ : Heap} {L : Addr} {target : Expr} {body : List Stmt} {Q : Flow → Shared → Prop}
/-- what a turn of a loop leaves -/
def TurnPost (h₀ : Heap) (L I : Addr) (oI : Obj) (J : (Str → Option Value) → List (Addr × Obj) → Prop) (s₁ : Shared) (Q : Flow → Shared → Prop) (f : Flow) (s₂ : Shared) : Prop :=
  match f with
  | .ret v => Q (.ret v) s₂
  | .brk => Q .next s₂
  | _ => ∃ h' tk m' nx, s₂ = { s₁ with heap := h', toks := tk } ∧ Fr h₀ L h' m' ∧ News h₀ L h' ((I, oI) :: nx) ∧ (∀ p ∈ nx, p.1 ≠ I) ∧ J m' nx
theorem range_turns {r : Addr} {a b : Int} {t u v : Tok} {n : Nat} {m : Str → Option Value} {news : List (Addr × Obj)} (J : Nat → (Str → Option Value) → List (Addr × Obj) → Prop)
    (hh : A.handled = none) (hr : IsRange s.heap r a b 1 t u v) (hsm : Builtin.Range.small a b 1 = true) (hn : Builtin.Range.rangeSize a b 1 = ((n : Nat) : Int)) (F : Fr h₀ L s.heap m) (N : News h₀ L s.heap news) (hL : env.locals = L) (hj : J 0 m news)
    (hgo : ∀ I v, letOwnedTupleGo target (.ref I) v = pure ())
    (turn : ∀ i k I oI m₁ nx h tk, i < n → J i m₁ nx → Fr h₀ L h m₁ → News h₀ L h ((I, oI) :: nx) → (∀ p ∈ nx, p.1 ≠ I) →
      wpAny (model prog w) A (assign target env (.int (a + (i : Int)) k)) (fun _ s₃ => wpAny (model prog w) A (execs body env) (TurnPost h₀ L I oI (J (i + 1)) { s with heap := h, toks := tk } Q) E s₃) E { s with heap := h, toks := tk })
    (done : ∀ m₁ nx h tk, J n m₁ nx → Fr h₀ L h m₁ → News h₀ L h nx → Q .next { s with heap := h, toks := tk }) :
    wpAny (model prog w) A (pyIter (.ref r)) (fun it s₂ => TurnsAt prog w A h₀ env target body Q E it s₂) E s := by
  subst hL
  refine wpAny_pyIter_range hr hsm ?_
  have W := KTurns.ofWalks (target := target) (range_walks (prog := prog) (w := w) (I := s.heap.objs.size) hh a n) (fun i v s' Q' E' _ h => by rw [hgo]; exact wpAny_pure h)
  have off : ∀ p ∈ news, p.1 ≠ s.heap.objs.size := fun p hp => Nat.ne_of_lt (Heap.lt_size (N p hp).1)
  refine ⟨_, _, _, n, _, _, _, m, news, J, rfl, W, ?_, ?_, ?_, ?_, F.push _, (fun p hp => ⟨Heap.get?_push_of_some _ (N p hp).1, (N p hp).2⟩), hj, ?_, ?_⟩
  · intro hI
    exact absurd F.ns.lt ((List.mem_singleton.mp hI) ▸ Nat.lt_irrefl _)
  · intro b hb
    rw [List.mem_singleton.mp hb]
    exact next_is_new F
  · intro p hp hI
    exact off p hp (List.mem_singleton.mp hI)
  · show IsRangeIter _ _ _ _ _
    rw [hn]
    simpa using Heap.get?_push_size _ rfl
  · rintro i v' m₁ news₁ h₁ tk₁ own hin ⟨k, rfl⟩ hJ hoff hown hown2 hmem hst F₁ N₁
    have hI : ∃ oI, h₁.get? s.heap.objs.size = some oI := ⟨_, hst⟩
    obtain ⟨oI, hoI⟩ := hI
    have hfr : h₀.get? s.heap.objs.size = none := next_is_new F
    have hIin : (s.heap.objs.size, oI) ∈ own := hmem _ (List.mem_singleton.mpr rfl) hfr _ hoI
    have N₂ : News h₀ env.locals h₁ ((s.heap.objs.size, oI) :: news₁) := fun p hp => by
      rcases List.mem_cons.mp hp with rfl | hp
      · exact N₁ _ (List.mem_append_left _ hIin)
      · exact N₁ _ (List.mem_append_right _ hp)
    have off₁ : ∀ p ∈ news₁, p.1 ≠ s.heap.objs.size := fun p hp e => hoff p hp (List.mem_singleton.mpr e)
    refine wpAny_mono (turn i k _ oI m₁ news₁ h₁ tk₁ hin hJ F₁ N₂ off₁) (fun _ s₃ h₃ => wpAny_mono h₃ (fun f s₂ p => ?_) fun _ _ e => e) fun _ _ e => e
    have ownEq : ∀ p ∈ own, p = (s.heap.objs.size, oI) := fun p hp => by
      have e1 := List.mem_singleton.mp (hown p hp)
      have e2 := hown2 p hp
      obtain ⟨p1, p2⟩ := p
      simp only at e1 e2
      subst e1
      rw [hoI] at e2
      cases e2
      rfl
    have fin : (∃ h' tk m' nx, s₂ = { s with heap := h', toks := tk } ∧ Fr h₀ env.locals h' m' ∧ News h₀ env.locals h' ((s.heap.objs.size, oI) :: nx) ∧ (∀ p ∈ nx, p.1 ≠ s.heap.objs.size) ∧ J (i + 1) m' nx) →
        LoopStepU h₀ env.locals [s.heap.objs.size] own (J (i + 1)) { s with heap := h₁, toks := tk₁ } .next s₂ := by
      rintro ⟨h', tk, m', nx, rfl, F', N', o', hJ'⟩
      refine ⟨rfl, h', tk, m', nx, rfl, F', fun p hp => ?_, fun p hp e => o' p hp (List.mem_singleton.mp e), hJ'⟩
      rcases List.mem_append.mp hp with hp | hp
      · rw [ownEq p hp]; exact N' _ (.head _)
      · exact N' _ (.tail _ hp)
    cases f with
    | ret v => exact .ret p
    | brk => exact .brk p
    | next => exact .next (fin p)
    | cont => exact .cont (fin p)
  · rintro h' tk m' news' F' N' _ hJ
    exact done m' news' h' tk hJ F' N'
end
/-- between the turns: a cell's entry, the rest of the ledger, one local stored -/
def JCell (c : Addr) (rest : List (Addr × Obj)) (x : Str) (m : Str → Option Value) (_ : Nat) (m₁ : Str → Option Value) (nx : List (Addr × Obj)) : Prop :=
  ∃ u o9 v9, o9.data = .cell v9 ∧ nx = (c, o9) :: rest ∧ m₁ = fun y => if y = x then u else m y
theorem JCell.start {c : Addr} {rest : List (Addr × Obj)} {x : Str} {m : Str → Option Value} {o : Obj} {v : Option Value} (h : o.data = .cell v) : JCell c rest x m 0 m ((c, o) :: rest) :=
  ⟨m x, o, v, h, rfl, by funext y; split <;> simp_all⟩
end Mine
end
section
open PySem PySem.W PySem.Spec PySem.Calls PyProof.Rows PySem.SeqAt


namespace Mine
section
variable {prog : Program} {w : World} {A : Around} {E : Value → Shared → Prop} {s : Shared} {h₀ : Heap} {L l : Addr} {m : Str → Option Value} {news : List (Addr × Obj)} {vs : List Value} {n : Nat} {v : Value}
theorem item_at {value slice : Expr} {k : Int} {u : Tok} {Q : Value → Shared → Prop} (N : News h₀ L s.heap news) (hm : (l, listOf vs.toArray n) ∈ news) (h0 : 0 ≤ k) (hhi : k < 1000) (hx : vs[k.toNat]? = some v) (h : Q v s)
    (hs : subscripted slice false (.ref l) (.int k u) = operate [.ref l, .int k u] (getItem (.ref l) (.int k u)) := by with_unfolding_all rfl) :
    wpAny (model prog w) A (subscriptTail value slice (.ref l) (.int k u)) Q E s := by
  have hl : s.heap.IsList l vs.toArray := ⟨_, (N _ hm).1, rfl, _, rfl⟩
  exact tail_any hl.typeIs slot_list_getitem.lookup (wpAny_getItem_list hl h0 (by omega) (by simpa using hx) h) hs
end
/-- a ledger cut in two -/
inductive Cut (T : List (Addr × Obj)) : List (Addr × Obj) → List (Addr × Obj) → Prop
  | nil : Cut T T []
  | cons {p l S} : Cut T l S → Cut T (p :: l) (p :: S)
theorem Cut.eq {T l S : List (Addr × Obj)} (x : Cut T l S) : l = S ++ T := by
  induction x with
  | nil => rfl
  | cons _ ih => rw [ih]; rfl
/-- no place of the one in the other -/
def Apart (S T : List (Addr × Obj)) : Prop := ∀ p ∈ S, ∀ q ∈ T, q.1 ≠ p.1
theorem Apart.nil {T : List (Addr × Obj)} : Apart [] T := fun _ h => nomatch h
theorem Apart.cons {T S : List (Addr × Obj)} {a : Addr} {o : Obj} (h : ∀ q ∈ T, q.1 ≠ a) (x : Apart S T) : Apart ((a, o) :: S) T := fun p hp => by
  rcases List.mem_cons.mp hp with rfl | hp
  · exact h
  · exact x p hp
theorem Apart.head {T S : List (Addr × Obj)} {a : Addr} {o : Obj} (x : Apart ((a, o) :: S) T) : (∀ q ∈ T, q.1 ≠ a) ∧ Apart S T := ⟨x _ (.head _), fun p hp => x p (.tail _ hp)⟩
/-- an entry of a ledger taken out -/
inductive Pull (e : Addr) (o : Obj) : List (Addr × Obj) → List (Addr × Obj) → Prop
  | hit {l} : Pull e o ((e, o) :: l) l
  | keep {p l l'} : Pull e o l l' → Pull e o (p :: l) (p :: l')
theorem Pull.sub {e : Addr} {o : Obj} {l l' : List (Addr × Obj)} (x : Pull e o l l') : ∀ q ∈ (e, o) :: l', q ∈ l := by
  induction x with
  | hit => exact fun q hq => hq
  | keep _ ih =>
    intro q hq
    rcases List.mem_cons.mp hq with rfl | hq
    · exact .tail _ (ih _ (.head _))
    rcases List.mem_cons.mp hq with rfl | hq
    · exact .head _
    · exact .tail _ (ih _ (.tail _ hq))
theorem sub_cons {p : Addr × Obj} {l l' : List (Addr × Obj)} (x : ∀ q ∈ l, q ∈ l') : ∀ q ∈ p :: l, q ∈ p :: l' := fun q hq => by
  rcases List.mem_cons.mp hq with rfl | hq
  · exact .head _
  · exact .tail _ (x q hq)
theorem pulls3 {h₀ h : Heap} {L e1 e2 e3 : Addr} {o1 o2 o3 : Obj} {l l1 l2 l3 : List (Addr × Obj)} (N : News h₀ L h l) (x1 : Pull e1 o1 l l1) (x2 : Pull e2 o2 l1 l2) (x3 : Pull e3 o3 l2 l3) : News h₀ L h ((e1, o1) :: (e2, o2) :: (e3, o3) :: l3) :=
  news_sub N fun q hq => x1.sub q (sub_cons (fun q hq => x2.sub q (sub_cons x3.sub q hq)) q hq)
theorem pulls5 {h₀ h : Heap} {L e1 e2 e3 e4 e5 : Addr} {o1 o2 o3 o4 o5 : Obj} {l l1 l2 l3 l4 l5 : List (Addr × Obj)} (N : News h₀ L h l) (x1 : Pull e1 o1 l l1) (x2 : Pull e2 o2 l1 l2) (x3 : Pull e3 o3 l2 l3) (x4 : Pull e4 o4 l3 l4) (x5 : Pull e5 o5 l4 l5) :
    News h₀ L h ((e1, o1) :: (e2, o2) :: (e3, o3) :: (e4, o4) :: (e5, o5) :: l5) :=
  news_sub N fun q hq => x1.sub q (sub_cons (fun q hq => x2.sub q (sub_cons (fun q hq => x3.sub q (sub_cons (fun q hq => x4.sub q (sub_cons x5.sub q hq)) q hq)) q hq)) q hq)
/-- a place that is none of these -/
def New (x : Addr) (as : List Addr) (tl : List (Addr × Obj)) : Prop := (∀ a ∈ as, a ≠ x) ∧ ∀ p ∈ tl, p.1 ≠ x
end Mine
end
section
open PySem PySem.W PySem.Calls PyProof.Rows PySem.Spec


namespace Mine
/-- a gate of the queues' side, as it lies -/
structure Gt where
  x : Addr
  xd : Addr
  w : Addr
  cl : Addr
  fld : Str
  val : Value
  t4 : Tok
  t5 : Tok
  n : Nat
  vs : List Value
def Gt.ent (P : Params) (z : Gt) : List (Addr × Obj) := [(z.x, instObj z.cl z.xd), (z.xd, dictOf [tyKey P z.fld z.t4 z.val, tyKey P "waiting" z.t5 (.ref z.w)] 2), (z.w, listOf z.vs.toArray z.n)]
/-- the plain gates, as they lie -/
structure Pz where
  pg : Addr
  pd : Addr
  hl : Addr
  dc : Addr
  wl : Addr
  t4 : Tok
  t5 : Tok
  t6 : Tok
  hs : List Value
  ws : List Value
  n1 : Nat
  n3 : Nat
  oc : Obj
def Pz.ent (P : Params) (z : Pz) : List (Addr × Obj) := [(z.pg, instObj 124 z.pd), (z.pd, pgD P z.t4 z.t5 z.t6 z.hl z.dc z.wl), (z.hl, listOf z.hs.toArray z.n1), (z.dc, z.oc), (z.wl, listOf z.ws.toArray z.n3)]
/-- what stands at the places, by both sides -/
structure St where
  held : List Int
  cnt : Int → Int
  rows : List (Int × Int)
  q : Int → List Int
  o : Int → Option Int
  c : Int → Int
def upd {α : Type} (f : Int → α) (k : Int) (v : α) : Int → α := fun j => if j = k then v else f j
def optVal (o : Option Int) (t : Tok) : Value := match o with | none => .none | some i => .int i t
/-- gate i lies as st says -/
structure GOk (st : St) (i : Nat) (g : Gt) : Prop where
  lock : i < 2 → g.cl = 168 ∧ g.fld = Str.ofString "owner" ∧ ∃ t, g.val = optVal (st.o (i : Int)) t
  group : ¬ i < 2 → g.cl = 210 ∧ g.fld = Str.ofString "count" ∧ ∃ t, g.val = .int (st.c (i : Int)) t
  que : LReads [] g.vs ((st.q (i : Int)).map .int)
def gateL (P : Params) (gl : Addr) (ng : Nat) (gs : List Gt) : List (Addr × Obj) := (gl, listOf (gs.map fun g => Value.ref g.x).toArray ng) :: gs.flatMap (Gt.ent P)
/-- the scene's ledger behind its dict and the list of who sleeps -/
structure ScnAt (prog : Program) (w : World) (pg gl : Addr) (z : Nat) (st : St) (tl : List (Addr × Obj)) (p : Pz) (ng : Nat) (gs : List Gt) (T : List (Addr × Obj)) : Prop where
  perm : tl.Perm (p.ent w.params ++ (gateL w.params gl ng gs ++ T))
  pg : p.pg = pg
  nodup : ((p.ent w.params ++ gateL w.params gl ng gs).map (·.1)).Nodup
  tup : TupTail T
  hs : LReads T p.hs (st.held.map enc1)
  ws : RowsIn enc1 T p.ws st.rows
  oc : TabO prog w enc1I T p.oc z st.cnt
  lo : (p.dc == sysModules) = false
  len : gs.length = 4
  ok : ∀ i g, gs[i]? = some g → GOk st i g
def Scn (prog : Program) (w : World) (pg gl : Addr) (z : Nat) (st : St) (tl : List (Addr × Obj)) : Prop := ∃ p ng gs T, ScnAt prog w pg gl z st tl p ng gs T
theorem apart_one {S T : List (Addr × Obj)} {a : Addr} {o : Obj} (x : Apart S T) (m : (a, o) ∈ S) : ∀ q ∈ T, q.1 ≠ a := x _ m
/-- the ledger of the call of a scene's deed: what is beside the scene first -/
theorem sub_scene {S T l l1 : List (Addr × Obj)} {a : Addr} {o : Obj} (x : Pull a o l l1) (y : Cut T l1 S) : ∀ q ∈ (a, o) :: (S ++ T), q ∈ l := fun q hq => by
  have := y.eq
  subst this
  exact x.sub q hq
/-- what a deed does to the queues' side: at once?, who goes on, then -/
inductive QStep (st : St) (g : Int) : Str → Int → Int → Bool → List Int → St → Prop
  | lock_free {k many} : 0 ≤ k → k < 2 → st.o k = none → QStep st g "lock" k many true [] { st with o := upd st.o k (some g) }
  | lock_held {k many o} : 0 ≤ k → k < 2 → st.o k = some o → (st.q k).contains g = false → QStep st g "lock" k many false [] { st with q := upd st.q k (st.q k ++ [g]) }
  | unl_none {k many o} : 0 ≤ k → k < 2 → st.o k = some o → st.q k = [] → QStep st g "unlock" k many true [] { st with o := upd st.o k none }
  | unl_first {k many o r qs} : 0 ≤ k → k < 2 → st.o k = some o → st.q k = r :: qs → QStep st g "unlock" k many true [r] { st with o := upd st.o k (some r), q := upd st.q k qs }
  | add_pos {k many} : 2 ≤ k → k < 4 → ¬ st.c k + many < 0 → 0 < st.c k + many → QStep st g "add" k many true [] { st with c := upd st.c k (st.c k + many) }
  | add_zero {k many} : 2 ≤ k → k < 4 → ¬ st.c k + many < 0 → ¬ 0 < st.c k + many → QStep st g "add" k many true (st.q k) { st with c := upd st.c k (st.c k + many), q := upd st.q k [] }
  | wait_zero {k many} : 2 ≤ k → k < 4 → st.c k = 0 → QStep st g "wait" k many true [] st
  | wait_non {k many} : 2 ≤ k → k < 4 → ¬ st.c k = 0 → QStep st g "wait" k many false [] { st with q := upd st.q k (st.q k ++ [g]) }
inductive QBad (st : St) : Str → Int → Int → Str → Prop
  | unl {k many} : 0 ≤ k → k < 2 → st.o k = none → QBad st "unlock" k many txU
  | add {k many} : 2 ≤ k → k < 4 → st.c k + many < 0 → QBad st "add" k many txN
inductive PStep (st : St) (g : Int) : Str → Int → Int → Bool → List Int → St → Prop
  | lock_free {k many} : st.held.contains k = false → PStep st g "lock" k many true [] { st with held := st.held ++ [k] }
  | lock_held {k many} : st.held.contains k = true → PStep st g "lock" k many false [] { st with rows := st.rows ++ [(k, g)] }
  | unl_none {k many} : st.held.contains k = true → (∀ r ∈ st.rows, r.1 ≠ k) → PStep st g "unlock" k many true [] { st with held := st.held.eraseIdx (st.held.idxOf k) }
  | unl_first {k many q pre post} : st.held.contains k = true → st.rows = pre ++ (k, q) :: post → (∀ r ∈ pre, r.1 ≠ k) → PStep st g "unlock" k many true [q] { st with rows := st.rows.eraseIdx pre.length }
  | add_pos {k many} : ¬ st.cnt k + many < 0 → 0 < st.cnt k + many → PStep st g "add" k many true [] { st with cnt := upd st.cnt k (st.cnt k + many) }
  | add_zero {k many} : ¬ st.cnt k + many < 0 → ¬ 0 < st.cnt k + many → PStep st g "add" k many true ((st.rows.filter (fun r => decide (r.1 = k))).map (·.2)) { st with cnt := upd st.cnt k (st.cnt k + many), rows := st.rows.filter (fun r => decide (r.1 ≠ k)) }
  | wait_zero {k many} : st.cnt k = 0 → PStep st g "wait" k many true [] st
  | wait_non {k many} : ¬ st.cnt k = 0 → PStep st g "wait" k many false [] { st with rows := st.rows ++ [(k, g)] }
inductive PBad (st : St) : Str → Int → Int → Str → Prop
  | unl {k many} : st.held.contains k = false → PBad st "unlock" k many txU
  | add {k many} : st.cnt k + many < 0 → PBad st "add" k many txN
/-- both sides tell the same -/
structure Match (st : St) : Prop where
  que : ∀ k, 0 ≤ k → k < 4 → st.q k = (st.rows.filter (fun r => decide (r.1 = k))).map (·.2)
  lock : ∀ k, 0 ≤ k → k < 2 → st.held.contains k = (st.o k).isSome
  group : ∀ k, 2 ≤ k → k < 4 → st.cnt k = st.c k
/-- no list of the scene is longer than z -/
structure Small (z : Nat) (st : St) : Prop where
  held : st.held.length ≤ z
  rows : st.rows.length ≤ z
  que : ∀ k, (st.q k).length ≤ z + 1
theorem all_ofLt {tl : List (Addr × Obj)} {a : Addr} (h : ∀ p ∈ tl, p.1 < a) : ∀ p ∈ tl, p.1 ≠ a := fun p hp => Nat.ne_of_lt (h p hp)
theorem all_ltS {tl : List (Addr × Obj)} {a : Addr} (h : ∀ p ∈ tl, p.1 < a) : ∀ p ∈ tl, p.1 < a + 1 := fun p hp => Nat.lt_succ_of_lt (h p hp)
theorem all_lt0 {tl S : List (Addr × Obj)} {a : Addr} (h : ∀ p ∈ S, p.1 < a) (s : ∀ p ∈ tl, p ∈ S) : ∀ p ∈ tl, p.1 < a := fun p hp => h p (s p hp)
end Mine
end
section
open PySem PySem.W PySem.Calls PyProof.Rows PySem.Spec PySem.SeqAt


namespace Mine
theorem eqvAll_ints : ∀ xs ys : List Int, PyData.eqvAll (xs.map .int) (ys.map .int) = decide (xs = ys)
  | [], [] => by simp [PyData.eqvAll]
  | [], _ :: _ => by simp [PyData.eqvAll]
  | _ :: _, [] => by simp [PyData.eqvAll]
  | x :: xs, y :: ys => by
    simp only [List.map_cons, PyData.eqvAll, eqvAll_ints xs ys, PyData.eqv, List.cons.injEq]
    by_cases h : x = y <;> simp [h]
theorem eqv_ints (xs ys : List Int) : PyData.eqv (.list (xs.map .int)) (.list (ys.map .int)) = decide (xs = ys) := by
  rw [← eqvAll_ints]; simp only [PyData.eqv]
theorem shaped_ints (xs : List Int) : shaped (.list (xs.map .int)) = true := by
  have h1 := okDs_lay _ (okDs_ints xs)
  have h2 := dep_ints xs
  have e1 : PyData.canLay0 (.list (xs.map .int)) = true := h1
  have e2 : PyData.depth (.list (xs.map .int)) = PyData.depthAll (xs.map .int) + 1 := rfl
  unfold shaped
  rw [e1, e2, Bool.true_and, decide_eq_true_eq]
  omega
section
variable {prog : Program} {w : World} {A : Around} {E : Value → Shared → Prop} {s : Shared} {h₀ : Heap} {L l l' r r' : Addr} {news : List (Addr × Obj)} {vs us : List Value} {n n' k k' : Nat} {Q : Value → Shared → Prop} {q q' : List Int} {c : Bool}
theorem eq_intsL (N : News h₀ L s.heap news) (hm : (l, listOf vs.toArray n) ∈ news) (hm' : (l', listOf us.toArray n') ∈ news) (rs : LReads [] vs (q.map .int)) (rs' : LReads [] us (q'.map .int)) (hb : decide (q = q') = c) (hu : A.units + 64 < cLine)
    (h : Q (.bool c) s) : wpAny (model prog w) A (compareOp .Eq (.ref l) (.ref l')) Q E s :=
  eq_dataH (reads_list_at (N.get hm) rfl rfl (rs.here N (fun _ h => nomatch h))) (reads_list_at (N.get hm') rfl rfl (rs'.here N (fun _ h => nomatch h))) (shaped_ints q) (shaped_ints q') hu (by rw [eqv_ints, hb]; exact h)
theorem ne_intsL (N : News h₀ L s.heap news) (hm : (l, listOf vs.toArray n) ∈ news) (hm' : (l', listOf us.toArray n') ∈ news) (rs : LReads [] vs (q.map .int)) (rs' : LReads [] us (q'.map .int)) (hb : decide (q = q') = c) (hu : A.units + 64 < cLine)
    (h : Q (.bool (!c)) s) : wpAny (model prog w) A (compareOp .NotEq (.ref l) (.ref l')) Q E s :=
  ne_dataH (reads_list_at (N.get hm) rfl rfl (rs.here N (fun _ h => nomatch h))) (reads_list_at (N.get hm') rfl rfl (rs'.here N (fun _ h => nomatch h))) (shaped_ints q) (shaped_ints q') hu (by rw [eqv_ints, hb]; exact h)
theorem shaped_told (b : Bool) (xs : List Int) : shaped (.list [.bool b, .list (xs.map .int)]) = true := by
  have h1 := shaped_ints xs
  have h2 := canLay_of_shaped h1
  have h3 := dep_ints xs
  have e1 : PyData.canLay0 (.list [.bool b, .list (xs.map .int)]) = (PyData.canLay0 (.bool b) && (PyData.canLay0 (.list (xs.map .int)) && true)) := rfl
  have e2 : PyData.depth (.list [.bool b, .list (xs.map .int)]) = max 0 (max (PyData.depthAll (xs.map .int) + 1) 0) + 1 := rfl
  unfold shaped
  rw [e1, e2, h2, Bool.and_true, Bool.and_true, decide_eq_true_eq.mpr (by omega), Bool.and_true]
  rfl
/-- the two sides told the same -/
theorem ne_told {b : Bool} (N : News h₀ L s.heap news) (hm : (l, listOf #[.bool b, .ref r] k) ∈ news) (hr : (r, listOf vs.toArray n) ∈ news) (hm' : (l', listOf #[.bool b, .ref r'] k') ∈ news) (hr' : (r', listOf us.toArray n') ∈ news)
    (rs : LReads [] vs (q.map .int)) (rs' : LReads [] us (q.map .int)) (hu : A.units + 64 < cLine)
    (h : Q (.bool false) s) : wpAny (model prog w) A (compareOp .NotEq (.ref l) (.ref l')) Q E s := by
  have a := reads_list_at (N.get hr) rfl rfl (rs.here N (fun _ h => nomatch h))
  have a' := reads_list_at (N.get hr') rfl rfl (rs'.here N (fun _ h => nomatch h))
  have c := reads_list_at (N.get hm) rfl rfl (vs := #[.bool b, .ref r]) (.cons (.bool b) (.cons a .nil))
  have c' := reads_list_at (N.get hm') rfl rfl (vs := #[.bool b, .ref r']) (.cons (.bool b) (.cons a' .nil))
  refine ne_dataH c c' (shaped_told b q) (shaped_told b q) hu ?_
  have : PyData.eqv (.list [.bool b, .list (q.map .int)]) (.list [.bool b, .list (q.map .int)]) = true := by
    have := eqv_ints q q
    simp only [PyData.eqv, PyData.eqvAll] at this ⊢
    simp [eqvAll_ints]
  rw [this]
  exact h
end
end Mine
end
section
open PySem PySem.W PySem.Spec PySem.Calls PyProof.Rows PySem.SeqAt


namespace Mine
section
variable {prog : Program} {w : World} {A : Around} {E : Value → Shared → Prop} {s : Shared} {env : Env} {h₀ : Heap} {L : Addr} {x : Str} {body : List Stmt} {Q : Flow → Shared → Prop}
def TurnPostU (h₀ : Heap) (L I : Addr) (oI : Obj) (J : (Str → Option Value) → List (Addr × Obj) → Prop) (s₁ : Shared) (f : Flow) (s₂ : Shared) : Prop :=
  f = .next ∧ ∃ h' tk m' nx, s₂ = { s₁ with heap := h', toks := tk } ∧ Fr h₀ L h' m' ∧ News h₀ L h' ((I, oI) :: nx) ∧ (∀ p ∈ nx, p.1 ≠ I) ∧ J m' nx
/-- the same, the loop that neither breaks nor returns -/
theorem list_turnsU {l : Addr} {vs : List Value} {n : Nat} {m : Str → Option Value} {news : List (Addr × Obj)} (J : Nat → (Str → Option Value) → List (Addr × Obj) → Prop)
    (hh : A.handled = none) (F : Fr h₀ L s.heap m) (N : News h₀ L s.heap news) (hm : (l, listOf vs.toArray n) ∈ news) (hL : env.locals = L) (hj : J 0 m news)
    (hJl : ∀ i m nx, J i m nx → (l, listOf vs.toArray n) ∈ nx)
    (turn : ∀ i v I oI m₁ nx s₁, vs[i]? = some v → J i m₁ nx → Fr h₀ L s₁.heap (fun y => if y = x then some v else m₁ y) → News h₀ L s₁.heap ((I, oI) :: nx) → (∀ p ∈ nx, p.1 ≠ I) →
      wpAny (model prog w) A (execs body env) (TurnPostU h₀ L I oI (J (i + 1)) s₁) E s₁)
    (done : ∀ m₁ nx h tk, J vs.length m₁ nx → Fr h₀ L h m₁ → News h₀ L h nx → Q .next { s with heap := h, toks := tk }) :
    wpAny (model prog w) A (pyIter (.ref l)) (fun it s₂ => LoopAtU prog w A h₀ env x body Q E it s₂) E s := by
  subst hL
  have hls : s.heap.IsList l vs.toArray := ⟨_, (N _ hm).1, rfl, _, rfl⟩
  have hne : l ≠ s.heap.objs.size := Nat.ne_of_lt (Heap.lt_size (N _ hm).1)
  refine wpAny_pyIter_list hls ?_
  have W := Walks.list (prog := prog) (w := w) hh s.heap.objs.size l hne vs.toArray
  have hlen : vs.toArray.size = vs.length := List.size_toArray
  rw [hlen] at W
  have hoff₀ : ∀ p ∈ news, p.1 ∉ [s.heap.objs.size] := fun p hp hI => absurd (Heap.lt_size (N p hp).1) ((List.mem_singleton.mp hI) ▸ Nat.lt_irrefl _)
  refine ⟨_, _, _, vs.length, _, _, m, news, J, rfl, W, ?_, ?_, hoff₀, ⟨⟨_, Heap.get?_push_size _ rfl, rfl, rfl⟩, hls.at fun o e => Heap.get?_push_of_some _ e⟩, F.push _, (fun p hp => ⟨Heap.get?_push_of_some _ (N p hp).1, (N p hp).2⟩), hj, ?_, ?_⟩
  · intro hI
    rcases List.mem_cons.mp hI with e | hI
    · exact absurd F.ns.lt (e ▸ Nat.lt_irrefl _)
    · exact (N _ hm).2.1 (List.mem_singleton.mp hI).symm
  · intro b hb
    rw [List.mem_singleton.mp hb]
    exact next_is_new F
  · rintro i v m₁ news₁ s₁ own hin hP hJ hoff hown hown2 hmem hst F₁ N₁
    have hx : vs[i]? = some v := by simpa using hP
    obtain ⟨oI, hoI, _⟩ := hst.1
    have hfr : h₀.get? s.heap.objs.size = none := next_is_new F
    have hIin : (s.heap.objs.size, oI) ∈ own := hmem _ (.head _) hfr _ hoI
    have hlin := hJl _ _ _ hJ
    have N₂ : News h₀ env.locals s₁.heap ((s.heap.objs.size, oI) :: news₁) := fun p hp => by
      rcases List.mem_cons.mp hp with rfl | hp
      · exact N₁ _ (List.mem_append_left _ hIin)
      · exact N₁ _ (List.mem_append_right _ hp)
    have off₁ : ∀ p ∈ news₁, p.1 ≠ s.heap.objs.size := fun p hp e => hoff p hp (List.mem_singleton.mpr e)
    refine wpAny_mono (turn i v _ oI m₁ news₁ s₁ hx hJ F₁ N₂ off₁) (fun f s₂ p => ?_) fun _ _ e => e
    have hlo : s₁.heap.get? l = some (listOf vs.toArray n) := (N₂ _ (.tail _ hlin)).1
    have ownEq : ∀ p ∈ own, p = (s.heap.objs.size, oI) ∨ p = (l, listOf vs.toArray n) := fun p hp => by
      have e2 := hown2 p hp
      obtain ⟨p1, p2⟩ := p
      rcases List.mem_cons.mp (hown _ hp) with e1 | e1
      · simp only at e1 e2
        subst e1
        have := hoI.symm.trans e2
        left; rw [Option.some.inj this]
      · have e1 := List.mem_singleton.mp e1
        simp only at e1 e2
        subst e1
        have := hlo.symm.trans e2
        right; rw [Option.some.inj this]
    obtain ⟨rfl, h', tk, m', nx, rfl, F', N', o', hJ'⟩ := p
    refine ⟨rfl, h', tk, m', nx, rfl, F', fun p hp => ?_, fun p hp e => o' p hp (List.mem_singleton.mp e), hJ'⟩
    rcases List.mem_append.mp hp with hp | hp
    · rcases ownEq p hp with e | e <;> rw [e]
      · exact N' _ (.head _)
      · exact N' _ (.tail _ (hJl _ _ _ hJ'))
    · exact N' _ (.tail _ hp)
  · rintro h' tk m' news' F' N' _ hJ
    exact done m' news' h' tk hJ F' N'
end
/-- one taken out of who sleeps -/
def rem1 (q : List Int) (k : Int) : List Int := q.eraseIdx (q.idxOf k)
def remAll (q : List Int) (out : List Int) : List Int := out.foldl rem1 q
theorem remAll_snoc (q : List Int) (out : List Int) (k : Int) : remAll q (out ++ [k]) = rem1 (remAll q out) k := by simp [remAll]
theorem take_snoc {out : List Int} {i : Nat} {x : Int} (h : out[i]? = some x) : out.take (i + 1) = out.take i ++ [x] := by
  rw [List.take_add_one, h]; rfl
/-- who sleeps, between the turns of the loop that lets them go on -/
def JRem (al : Addr) (rest : List (Addr × Obj)) (x : Str) (m : Str → Option Value) (asl out : List Int) (i : Nat) (m₁ : Str → Option Value) (nx : List (Addr × Obj)) : Prop :=
  ∃ u vs n, nx = (al, listOf vs.toArray n) :: rest ∧ (m₁ = fun y => if y = x then u else m y) ∧ LReads [] vs ((remAll asl (out.take i)).map .int) ∧ vs.length ≤ 200
theorem JRem.start {al : Addr} {rest : List (Addr × Obj)} {x : Str} {m : Str → Option Value} {asl out : List Int} {vs : List Value} {n : Nat} (r : LReads [] vs (asl.map .int)) (z : vs.length ≤ 200) : JRem al rest x m asl out 0 m ((al, listOf vs.toArray n) :: rest) :=
  ⟨m x, vs, n, rfl, by funext y; split <;> simp_all, r, z⟩
theorem readsAll_int {h : Heap} : ∀ (vs : List Value) (q : List Int) (as : List Addr) (i : Nat) (v : Value), ReadsAll h vs (q.map .int) as → vs[i]? = some v → ∃ k t, v = .int k t ∧ q[i]? = some k
  | [], _, _, _, _, _, e => by simp at e
  | v0 :: vs, [], _, _, _, r, _ => nomatch r
  | v0 :: vs, k :: q, _, i, v, r, e => by
    rw [List.map_cons] at r
    cases r with
    | cons a b =>
      cases i with
      | zero =>
        simp only [List.getElem?_cons_zero, Option.some.injEq] at e
        subst e
        cases a
        exact ⟨_, _, rfl, rfl⟩
      | succ i =>
        simp only [List.getElem?_cons_succ] at e ⊢
        exact readsAll_int vs q _ i v b e
theorem LReads.at_int {vs : List Value} {q : List Int} {i : Nat} {v : Value} (r : LReads [] vs (q.map .int)) (e : vs[i]? = some v) : ∃ k t, v = .int k t ∧ q[i]? = some k :=
  readsAll_int vs q _ i v (r default (fun _ h => nomatch h)) e
abbrev tab2 (c1 c2 : Addr) : Array Value := #[] ++ #[rawInt ((166 : Nat) : Int), rawInt ((21 : Nat) : Int), .ref c1] ++ #[rawInt ((167 : Nat) : Int), rawInt ((22 : Nat) : Int), .ref c2]
abbrev lamQ : Str := (Str.ofString "_law_deed_right" ++ ".<locals>.") ++ "<lambda>"
theorem JRem.next {al : Addr} {rest : List (Addr × Obj)} {x : Str} {m : Str → Option Value} {asl out : List Int} {i : Nat} {vs : List Value} {n : Nat} {k : Int} {u : Option Value} {v : Value} (hk : out[i]? = some k) (r : LReads [] vs ((remAll asl (out.take i)).map .int)) (z : vs.length ≤ 200) :
    JRem al rest x m asl out (i + 1) (fun y => if y = x then some v else (fun y => if y = x then u else m y) y) ((al, listOf (vs.eraseIdx ((remAll asl (out.take i)).idxOf k)).toArray n) :: rest) := by
  refine ⟨some v, _, _, rfl, ?_, ?_, ?_⟩
  · funext y
    by_cases h : y = x <;> simp [h]
  · rw [take_snoc hk, remAll_snoc]
    exact LReads.eraseM _ r
  · exact Nat.le_trans (List.length_eraseIdx_le ..) z
theorem off_upd {I al : Addr} {o o' : Obj} {rest : List (Addr × Obj)} (h : ∀ p ∈ (al, o) :: rest, p.1 ≠ I) : ∀ p ∈ (al, o') :: rest, p.1 ≠ I := fun p hp => by
  rcases List.mem_cons.mp hp with rfl | hp
  · exact h (al, o) (.head _)
  · exact h p (.tail _ hp)
theorem turn_rem {h₀ h' : Heap} {L I al : Addr} {oI o : Obj} {rest l : List (Addr × Obj)} {x : Str} {m : Str → Option Value} {asl out : List Int} {i tk : Nat} {vs : List Value} {n : Nat} {k : Int} {u : Option Value} {v : Value} {s₁ : Shared}
    (hk : out[i]? = some k) (r : LReads [] vs ((remAll asl (out.take i)).map .int)) (z : vs.length ≤ 200) (off : ∀ p ∈ (al, o) :: rest, p.1 ≠ I) (F : Fr h₀ L h' (fun y => if y = x then some v else (fun y => if y = x then u else m y) y)) (N : News h₀ L h' l)
    (s : ∀ q ∈ (I, oI) :: (al, listOf (vs.eraseIdx ((remAll asl (out.take i)).idxOf k)).toArray n) :: rest, q ∈ l) : TurnPostU h₀ L I oI (JRem al rest x m asl out (i + 1)) s₁ .next { s₁ with heap := h', toks := tk } :=
  ⟨rfl, _, _, _, _, rfl, F, news_sub N s, off_upd off, JRem.next hk r z⟩
theorem remAll_end {asl out : List Int} {us vs : List Value} (r : LReads [] vs ((remAll asl (out.take us.length)).map .int)) (y : LReads [] us (out.map .int)) : LReads [] vs ((remAll asl out).map .int) := by
  have e : us.length = out.length := by
    have := y.length_eq (h := default) (fun _ h => nomatch h)
    simpa using this
  rw [e, List.take_length] at r
  exact r
theorem instFlown {h₀ h : Heap} {L e d C : Addr} {oe od : Obj} {news : List (Addr × Obj)} (N : News h₀ L h news) (m1 : (e, oe) ∈ news) (m2 : (d, od) ∈ news) (c : oe.cls = .ref C) (dd : oe.dict = some d) (fs : ∃ vs, oe.data = .fields vs) : InstAt h e oe C (some od) := by
  obtain ⟨vs, hv⟩ := fs
  refine ⟨(N _ m1).1, c, by unfold notCls; rw [hv], ?_⟩
  rw [dd]
  exact (N _ m2).1
end Mine
end
section
open PySem PySem.W PySem.Spec PySem.Calls PyProof.Rows PySem.SeqAt


namespace Mine
theorem news_drop3 {h₀ h : Heap} {L : Addr} {a b c d : Addr × Obj} {l : List (Addr × Obj)} (N : News h₀ L h (a :: b :: c :: d :: l)) : News h₀ L h (a :: l) := news_sub N fun q hq => by
  rcases List.mem_cons.mp hq with rfl | hq
  · exact .head _
  · exact .tail _ (.tail _ (.tail _ (.tail _ hq)))
theorem LeaveT.of1 {A₀ : Around} {base h₀ : Heap} {outer : List Env} {L : Addr} {m : Str → Option Value} {R : Result → Shared → Prop} {L' : Addr} {m' : Str → Option Value} {news' : List (Addr × Obj)} {fs : List Addr} {g g' : Heap} {v : Value} {s' : Shared} (T : KtsTurn fs g g') (F' : Fr g' L' s'.heap m') (N' : News g' L' s'.heap news')
    (k : ∀ h₀', KtsTurn (outer.filterMap (·.frame)) h₀ h₀' → Fr h₀' L s'.heap m → News h₀' L s'.heap news' → Below A₀ base outer h₀' → R (.ok (.ret v)) s') : LeaveT fs A₀ base outer h₀ L m g R v s' := ⟨g', L', m', news', T, F', N', k⟩
section
variable {prog : Program} {w : World} {A : Around} {E : Value → Shared → Prop} {s : Shared} {K : Frag} {x C L : Addr} {h₀ : Heap} {m : Str → Option Value} {es : List DictEntry} {n : Nat} {name : Str} {v : Value} {expr : Bool} {ox : Obj} {attr : Option Value} {Q : Value → Shared → Prop}
theorem getE_own (F : Fr h₀ L s.heap m) (X₀ : K.In h₀) (I : InstAt s.heap x ox C (some (dictOf es n))) (hga : findIn K (.ref C) "__getattribute__" = some (some (.builtin "BaseException.__getattribute__"))) (hgh : findIn K (.ref C) "__getattr__" = some none)
    (hb : mroIn K C (.type "BaseException") = some true) (hh : hasDictIn K C = true) (ha : findIn K (.ref C) name = some attr) (hn : noGet K attr = true) (hl : getL name es = some (some v)) (hv : handedIn v = true) (h : Q v { s with toks := s.toks + 1 }) :
    wpAny (model prog w) A (getAttr (.ref x) name expr) Q E s := by
  have X := X₀.keeps F.keep
  have FB := PySem.F.attr_Exception
  obtain ⟨hp, g, d, t, os⟩ := s
  have L0 := I.type (M := model prog w)
  have L1 := looks_findIn (M := model prog w) X hga
  have L2 := looks_findIn (M := model prog w) X hgh
  have L3 := looks_find (M := model prog w) X I (findObj_own hh ha hn hl)
  have sub : Looks (model prog w) hp (isInstance (.ref x) (.type "BaseException")) true := I.type.andThen (looks_mroIn X hb)
  have hx2 : (onTheHeap (Value.ref C) && Value.builtin "BaseException.__getattribute__" == Value.builtin "object.__getattribute__") = false := by
    have : (Value.builtin "BaseException.__getattribute__" == Value.builtin "object.__getattribute__") = false := by decide +kernel
    rw [this, Bool.and_false]
  unfold getAttr getAttrBy
  refine wpAny_bind (wpAny_mkText (wpAny_holding (wpAny_bind (L0.at (wpAny_bind (L1.at ?_))))))
  show wpAny _ _ (if (onTheHeap (Value.ref C) && Value.builtin "BaseException.__getattribute__" == Value.builtin "object.__getattribute__") = true then _ else getAttrByItsOwn _ _ _ _ _ _) _ _ _
  rw [hx2, if_neg (by decide)]
  unfold getAttrByItsOwn
  refine wpAny_bind ?_
  show wpAny _ _ (typeLookup (.ref C) "__getattr__") _ _ _
  refine L2.at (wpAny_bind (wpAny_attempt (wpAny_holding ?_)))
  have hx0 : (expr && onTheHeap (Value.builtin "BaseException.__getattribute__")) = false := by cases expr <;> rfl
  unfold callGetattribute
  rw [hx0, if_neg (by decide)]
  unfold boundAndCalled
  rw [FB.ga.bind]
  refine wpAny_bind (wpAny_pure ?_)
  show wpAny _ _ (call (.builtin "BaseException.__getattribute__") [.ref x, .str name t]) _ _ _
  refine wpAny_call (codeAny_call_builtin FB.ga.plain PySem.F.entry_bexc_ga (@check_slot (model prog w) _ _ ⟨hp, g, d, t + 1, os⟩ "BaseException.__getattribute__" "BaseException" "__getattribute__" (.ref x) [.str name t] [] _ (by decide +kernel) (by decide +kernel) sub (PySem.F.args_bexc_ga _ _) ?_))
  unfold Builtin.«object.__getattribute__»
  have f0 : slotArgs "__getattribute__" 1 ⟨[.ref x, .str name t], []⟩ = pure (.ref x, [.str name t]) := rfl
  have f1 : PySem.Builtin.ObjectAttr.attrName (.str name t) = pure name := rfl
  rw [f0]
  refine wpAny_bind (wpAny_pure ?_)
  show wpAny _ _ (PySem.Builtin.ObjectAttr.attrName (.str name t) >>= _) _ _ _
  rw [f1]
  refine wpAny_bind (wpAny_pure (wpAny_bind (L0.at (wpAny_bind (L3.at ?_)))))
  refine wpAny_pure ?_
  show wpAny _ _ (handedOut v) _ _ _
  rw [handedOut_of hv]; exact wpAny_pure h
end
end Mine
end
section
open PySem PySem.W PySem.Spec PySem.Calls PyProof.Rows PySem.SeqAt


namespace Mine
theorem news_app {h₀ h : Heap} {L : Addr} {news tt M : List (Addr × Obj)} (N : News h₀ L h news) (s : ∀ q ∈ tt, q ∈ news) (s2 : ∀ q ∈ M, q ∈ tt) : News h₀ L h (M ++ news) := fun q hq => by
  rcases List.mem_append.mp hq with hq | hq
  · exact N _ (s _ (s2 _ hq))
  · exact N _ hq
section
variable {prog : Program} {w : World} {pg gl : Addr} {z : Nat} {st : St} {tl : List (Addr × Obj)} {p : Pz} {ng : Nat} {gs : List Gt} {T : List (Addr × Obj)}
theorem ScnAt.plain (x : ScnAt prog w pg gl z st tl p ng gs T) : ∀ q ∈ p.ent w.params, q ∈ tl := fun q h => x.perm.mem_iff.mpr (List.mem_append_left _ h)
theorem ScnAt.tups (x : ScnAt prog w pg gl z st tl p ng gs T) : ∀ q ∈ T, q ∈ tl := fun q h => x.perm.mem_iff.mpr (List.mem_append_right _ (List.mem_append_right _ h))
theorem ScnAt.gates (x : ScnAt prog w pg gl z st tl p ng gs T) : (gl, listOf (gs.map fun g => Value.ref g.x).toArray ng) ∈ tl := x.perm.mem_iff.mpr (List.mem_append_right _ (List.mem_append_left _ (.head _)))
theorem ScnAt.gate (x : ScnAt prog w pg gl z st tl p ng gs T) {i : Nat} {g : Gt} (h : gs[i]? = some g) : ∀ q ∈ g.ent w.params, q ∈ tl := fun q hq =>
  x.perm.mem_iff.mpr (List.mem_append_right _ (List.mem_append_left _ (.tail _ (List.mem_flatMap.mpr ⟨g, List.mem_of_getElem? h, hq⟩))))
end
section
variable {prog : Program} {w : World} {A : Around} {E : Value → Shared → Prop} {s : Shared} {h₀ : Heap} {L l l' : Addr} {news : List (Addr × Obj)}
theorem eqAt_bytes (b : Array UInt8) (t u : Tok) : EqAt A s (.bytes b t) (.bytes b u) true := fun prog w E Q hq => by
  unfold eqBool
  refine wpAny_holding ?_
  split
  · exact wpAny_bind (wpAny_rule (wpAny_pure hq))
  · refine wpAny_bind (eq_bytes ?_)
    rw [beq_self_eq_true]
    exact wpAny_pure hq
theorem ne_panics {b : Array UInt8} {p : Str} {t u t' u' : Tok} {n n' : Nat} {Q : Value → Shared → Prop} (N : News h₀ L s.heap news) (hm : (l, { cls := .type "tuple", data := .seq #[.str p t, .bytes b u] n }) ∈ news) (hm' : (l', { cls := .type "tuple", data := .seq #[.str p t', .bytes b u'] n' }) ∈ news)
    (hu : A.units + 8 < cLine) (h : Q (.bool false) s) : wpAny (model prog w) A (compareOp .NotEq (.ref l) (.ref l')) Q E s := by
  have hl : s.heap.IsTuple l #[.str p t, .bytes b u] := ⟨_, (N _ hm).1, rfl, _, rfl⟩
  have hl' : s.heap.IsTuple l' #[.str p t', .bytes b u'] := ⟨_, (N _ hm').1, rfl, _, rfl⟩
  refine RcNeAt.tuples (e := fun _ => true) hl hl' (by omega) ?_ prog w E Q h
  intro j h1 h2
  match j, h1, h2 with
  | 0, _, _ => 
    have := (eqGives_str p p t t').at A.in1 s
    rw [beq_self_eq_true] at this
    exact this
  | 1, _, _ => exact eqAt_bytes b u u'
end
theorem reads_place {h₀ h : Heap} {L D1 D2 : Addr} {news : List (Addr × Obj)} {k : Int} {t ta : Tok} (N : News h₀ L h news) (m1 : (D1, { cls := .type "tuple", data := .seq #[.str "cell" t, .int k ta, .ref D2] }) ∈ news) (m2 : (D2, { cls := .type "tuple", data := .seq #[] }) ∈ news) : Reads h (.ref D1) (enc1 k) [] :=
  .tuple (N _ m1).1 rfl rfl (.cons (.str _ _) (.cons (.int _ _) (.cons (.tuple (N _ m2).1 rfl rfl .nil) .nil)))
theorem optVal_none (t : Tok) : optVal none t = .none := rfl
theorem optVal_some (i : Int) (t : Tok) : optVal (some i) t = .int i t := rfl
theorem turn_cell {h₀ h' : Heap} {L I c : Addr} {oI o o9 : Obj} {rest l : List (Addr × Obj)} {x : Str} {m : Str → Option Value} {i tk : Nat} {u v9 : Option Value} {v : Value} {s₁ : Shared} {Q : Flow → Shared → Prop}
    (F : Fr h₀ L h' (fun y => if y = x then some v else (fun y => if y = x then u else m y) y)) (hd : o9.data = .cell v9) (off : ∀ p ∈ (c, o) :: rest, p.1 ≠ I) (N : News h₀ L h' l)
    (s : ∀ q ∈ (I, oI) :: (c, o9) :: rest, q ∈ l) : TurnPost h₀ L I oI (JCell c rest x m (i + 1)) s₁ Q .next { s₁ with heap := h', toks := tk } :=
  ⟨_, _, _, _, rfl, F, news_sub N s, off_upd off, ⟨some v, o9, v9, hd, rfl, by funext y; by_cases h : y = x <;> simp [h]⟩⟩
/-- the scene with what else stands beside it -/
def ScnF (prog : Program) (w : World) (pg gl : Addr) (G : List (Addr × Obj)) (z : Nat) (st : St) (tt : List (Addr × Obj)) : Prop := ∃ tl, tt = G ++ tl ∧ Scn prog w pg gl z st tl ∧ Apart G tl
end Mine
end
section
open PySem PySem.W PySem.Calls PyProof.Rows PySem.Spec PySem.SeqAt



namespace Mine
theorem split_at {α : Type} {l : List α} {i : Nat} {a : α} (h : l[i]? = some a) : ∃ pre post, l = pre ++ a :: post ∧ pre.length = i := by
  obtain ⟨hi, e⟩ := List.getElem?_eq_some_iff.mp h
  refine ⟨l.take i, l.drop (i + 1), ?_, List.length_take_of_le (Nat.le_of_lt hi)⟩
  rw [← e, ← List.drop_eq_getElem_cons hi, List.take_append_drop]
theorem at_new {α : Type} {pre post : List α} {a b y : α} {j : Nat} (h : (pre ++ b :: post)[j]? = some y) : (j = pre.length ∧ y = b) ∨ (j ≠ pre.length ∧ (pre ++ a :: post)[j]? = some y) := by
  rcases Nat.lt_trichotomy j pre.length with hl | hl | hl
  · rw [List.getElem?_append_left hl] at h ⊢
    exact .inr ⟨Nat.ne_of_lt hl, h⟩
  · subst hl
    rw [List.getElem?_append_right (Nat.le_refl _), Nat.sub_self] at h
    exact .inl ⟨rfl, (Option.some.inj h).symm⟩
  · obtain ⟨k, hk⟩ : ∃ k, j - pre.length = k + 1 := ⟨j - pre.length - 1, by omega⟩
    rw [List.getElem?_append_right (Nat.le_of_lt hl), hk] at h ⊢
    exact .inr ⟨Nat.ne_of_gt hl, h⟩
theorem perm_gate {α : Type} (P A G B T : List α) (e : α) : (P ++ ((e :: (A ++ (G ++ B))) ++ T)).Perm (e :: (G ++ ((P ++ (A ++ B)) ++ T))) := by
  have h1 : (A ++ (G ++ B)).Perm (G ++ (A ++ B)) := List.perm_append_comm_assoc A G B
  have h2 := (h1.append_left P).trans (List.perm_append_comm_assoc P G (A ++ B))
  have h3 := h2.append_right T
  rw [List.append_assoc, List.append_assoc G] at h3
  exact List.perm_middle.trans (.cons _ h3)
theorem gateL_at (P : Params) (gl : Addr) (ng : Nat) (pre post : List Gt) (g : Gt) : gateL P gl ng (pre ++ g :: post) = (gl, listOf ((pre ++ g :: post).map fun g => Value.ref g.x).toArray ng) :: (pre.flatMap (Gt.ent P) ++ (g.ent P ++ post.flatMap (Gt.ent P))) := by
  unfold gateL; rw [List.flatMap_append, List.flatMap_cons]
theorem map_at (pre post : List Gt) {g g' : Gt} (e : g'.x = g.x) : ((pre ++ g' :: post).map fun g => Value.ref g.x) = ((pre ++ g :: post).map fun g => Value.ref g.x) := by
  rw [List.map_append, List.map_append, List.map_cons, List.map_cons, e]
theorem nodup_swap {c x d a b : Addr} {M : List Addr} (h : (c :: x :: d :: a :: M).Nodup) (n : b ∉ c :: x :: d :: M) : (c :: x :: d :: b :: M).Nodup := by
  simp only [List.nodup_cons, List.mem_cons, not_or] at h n ⊢
  exact ⟨⟨h.1.1, h.1.2.1, Ne.symm n.1, h.1.2.2.2⟩, ⟨h.2.1.1, Ne.symm n.2.1, h.2.1.2.2⟩, ⟨Ne.symm n.2.2.1, h.2.2.1.2⟩, n.2.2.2, h.2.2.2.2⟩
section
variable {prog : Program} {w : World} {pg gl : Addr} {z : Nat} {st : St} {tl : List (Addr × Obj)} {p : Pz} {ng : Nat} {gs : List Gt} {T : List (Addr × Obj)}
theorem ScnAt.split (x : ScnAt prog w pg gl z st tl p ng gs T) {i : Nat} {g : Gt} (h : gs[i]? = some g) :
    ∃ M0, tl.Perm ((gl, listOf (gs.map fun g => Value.ref g.x).toArray ng) :: (g.ent w.params ++ (M0 ++ T))) ∧ (gl :: g.x :: g.xd :: g.w :: M0.map (·.1)).Nodup ∧
      ∀ (g' : Gt) (st' : St), g'.x = g.x → g'.xd = g.xd → st'.held = st.held → st'.cnt = st.cnt → st'.rows = st.rows → GOk st' i g' → (∀ j gj, j ≠ i → GOk st j gj → GOk st' j gj) →
        g'.w ∉ gl :: g.x :: g.xd :: M0.map (·.1) → Scn prog w pg gl z st' ((gl, listOf (gs.map fun g => Value.ref g.x).toArray ng) :: (g'.ent w.params ++ (M0 ++ T))) := by
  obtain ⟨pre, post, rfl, hi⟩ := split_at h
  have pp := fun (G T : List (Addr × Obj)) => perm_gate (p.ent w.params) (pre.flatMap (Gt.ent w.params)) G (post.flatMap (Gt.ent w.params)) T (gl, listOf ((pre ++ g :: post).map fun g => Value.ref g.x).toArray ng)
  have p0 := fun G => pp G []
  simp only [List.append_nil] at p0
  have hnd := x.nodup
  rw [gateL_at] at hnd
  have hnd2 := ((p0 _).map (·.1)).nodup_iff.mp hnd
  rw [List.map_cons, List.map_append] at hnd2
  refine ⟨p.ent w.params ++ (pre.flatMap (Gt.ent w.params) ++ post.flatMap (Gt.ent w.params)), ?_, hnd2, ?_⟩
  · have := x.perm
    rw [gateL_at] at this
    exact this.trans (pp _ T)
  · intro g' st' hx hxd hh hc hr hok hoth hw
    refine ⟨p, ng, pre ++ g' :: post, T, ?_, x.pg, ?_, x.tup, hh ▸ x.hs, hr ▸ x.ws, hc ▸ x.oc, x.lo, ?_, ?_⟩
    · rw [gateL_at, map_at pre post hx]; exact (pp _ T).symm
    · rw [gateL_at, map_at pre post hx]
      refine ((p0 _).map (·.1)).nodup_iff.mpr ?_
      rw [List.map_cons, List.map_append]
      have := nodup_swap hnd2 hw
      rw [← hx, ← hxd] at this
      exact this
    · have := x.len
      rw [List.length_append, List.length_cons] at this ⊢
      exact this
    · intro j gj hj
      rcases at_new (a := g) hj with ⟨rfl, rfl⟩ | ⟨hne, hj'⟩
      · rw [hi]; exact hok
      · exact hoth j gj (by rw [← hi]; exact hne) (x.ok j gj hj')
end
end Mine
end
section
open PySem PySem.W PySem.Calls PyProof.Rows PySem.Spec PySem.SeqAt



namespace Mine
/-- what stands beside the front E of a scene: in another order -/
theorem mem_rot {α : Type} {tl E M T fr : List α} (pm : tl.Perm (E ++ (M ++ T))) (q : α) : q ∈ fr ++ tl ↔ q ∈ E ++ (M ++ T ++ fr) := by
  rw [List.mem_append, pm.mem_iff, ← List.append_assoc E (M ++ T) fr, List.mem_append (t := fr), or_comm]
/-- what stands beside the front E is none of its places -/
theorem front_sep {h₀ h : Heap} {L : Addr} {tl E M T fr l : List (Addr × Obj)} (pm : tl.Perm (E ++ (M ++ T))) (nd : (E.map (·.1) ++ M.map (·.1)).Nodup) (ht : ∀ e ∈ E, e.2.cls ≠ .type "tuple") (tup : TupTail T)
    (N : News h₀ L h l) (hl : ∀ q ∈ tl, q ∈ l) (hA : Apart fr tl) : ∀ a ∈ E.map (·.1), ∀ q ∈ M ++ T ++ fr, q.1 ≠ a := fun a ha q hq => by
  obtain ⟨e, he, rfl⟩ := List.mem_map.mp ha
  have hin := fun q h => hl q (pm.mem_iff.mpr h)
  rcases List.mem_append.mp hq with hq | hq
  · rcases List.mem_append.mp hq with hq | hq
    · exact Ne.symm ((List.nodup_append.mp nd).2.2 _ ha _ (List.mem_map.mpr ⟨q, hq, rfl⟩))
    · exact tup.ne (d := e.1) (o := e.2) N (fun q h => hin q (List.mem_append_right _ (List.mem_append_right _ h))) (hin _ (List.mem_append_left _ he)) (ht e he) q hq
  · exact Ne.symm (hA q hq e (pm.mem_iff.mpr (List.mem_append_left _ he)))
theorem New.ne {x a : Addr} {as : List Addr} {R : List (Addr × Obj)} (n : New x as R) (h : a ∈ as) : a ≠ x := n.1 a h
theorem apart3 {S E M T : List (Addr × Obj)} (a1 : ∀ q ∈ S, ∀ a ∈ E.map (·.1), a ≠ q.1) (a2 : Apart S M) (a3 : Apart S T) : Apart S (E ++ (M ++ T)) := fun p hp q hq => by
  rcases List.mem_append.mp hq with h | h
  · exact a1 p hp _ (List.mem_map.mpr ⟨q, h, rfl⟩)
  · exact (List.mem_append.mp h).elim (a2 p hp q) (a3 p hp q)
theorem apartc {S T : List (Addr × Obj)} {p : Addr × Obj} (a1 : ∀ q ∈ T, q.1 ≠ p.1) (a2 : Apart S T) : Apart (p :: S) T := fun a ha => (List.mem_cons.mp ha).elim (fun e => by subst e; exact a1) (a2 a)
end Mine
end
section
open PySem PySem.W PySem.Calls PyProof.Rows PySem.Spec PySem.SeqAt



namespace Mine
theorem upd_same {α : Type} {f : Int → α} {k : Int} {v : α} : upd f k v k = v := if_pos rfl
theorem upd_other {α : Type} {f : Int → α} {k j : Int} {v : α} (h : j ≠ k) : upd f k v j = f j := if_neg h
theorem GOk.other {st st' : St} {j : Nat} {g : Gt} {k : Int} (h : (j : Int) ≠ k) (ho : ∀ i, i ≠ k → st'.o i = st.o i) (hq : ∀ i, i ≠ k → st'.q i = st.q i) (hc : ∀ i, i ≠ k → st'.c i = st.c i) (x : GOk st j g) : GOk st' j g :=
  ⟨fun z => by rw [ho _ h]; exact x.lock z, fun z => by rw [hc _ h]; exact x.group z, by rw [hq _ h]; exact x.que⟩
section
variable {prog : Program} {w : World} {h₀ h : Heap} {L sd pg gl : Addr} {z : Nat} {osd : Obj} {fr tl : List (Addr × Obj)} {st : St} {k : Int}
/-- gate k in front -/
structure QPre (prog : Program) (w : World) (h₀ : Heap) (L : Addr) (h : Heap) (sd pg gl : Addr) (z : Nat) (osd : Obj) (fr : List (Addr × Obj)) (st : St) (k : Int) (gs : List Gt) (ng : Nat) (R : List (Addr × Obj)) (g : Gt) : Prop where
  at_ : (gs.map fun g => Value.ref g.x)[k.toNat]? = some (.ref g.x)
  ok : GOk st k.toNat g
  news : News h₀ L h ((sd, osd) :: (gl, listOf (gs.map fun g => Value.ref g.x).toArray ng) :: (g.x, instObj g.cl g.xd) :: (g.xd, dictOf [tyKey w.params g.fld g.t4 g.val, tyKey w.params "waiting" g.t5 (.ref g.w)] 2) :: (g.w, listOf g.vs.toArray g.n) :: R)
  nd : [sd, gl, g.x, g.xd, g.w].Nodup
  sep : ∀ a ∈ [sd, gl, g.x, g.xd, g.w], ∀ q ∈ R, q.1 ≠ a
  len : g.vs.length ≤ 200
  back : ∀ (g' : Gt) (st' : St) (h' : Heap) (l r : Addr) (o1 o2 : Obj), g'.x = g.x → g'.xd = g.xd → st'.held = st.held → st'.cnt = st.cnt → st'.rows = st.rows → GOk st' k.toNat g' →
    (∀ i, i ≠ k → st'.o i = st.o i) → (∀ i, i ≠ k → st'.q i = st.q i) → (∀ i, i ≠ k → st'.c i = st.c i) →
    New l [sd, gl, g.x, g.xd, g.w] R → (r = g.w ∨ New r [sd, gl, g.x, g.xd, g.w] R) → (g'.w = g.w ∨ New g'.w [sd, gl, g.x, g.xd, g.w] R) → g'.w ≠ l → g'.w ≠ r →
    News h₀ L h' ((l, o1) :: (r, o2) :: (sd, osd) :: (gl, listOf (gs.map fun g => Value.ref g.x).toArray ng) :: (g.x, instObj g'.cl g.xd) :: (g.xd, dictOf [tyKey w.params g'.fld g'.t4 g'.val, tyKey w.params "waiting" g'.t5 (.ref g'.w)] 2) :: (g'.w, listOf g'.vs.toArray g'.n) :: R) →
    ∃ tl', News h₀ L h' ((l, o1) :: (r, o2) :: (sd, osd) :: (fr ++ tl')) ∧ Scn prog w pg gl z st' tl' ∧ Apart ((l, o1) :: (r, o2) :: (sd, osd) :: fr) tl' ∧ (∀ p ∈ fr, p.1 ≠ l) ∧ (∀ p ∈ fr, p.1 ≠ r) ∧ l ≠ sd ∧ r ≠ sd
theorem q_pre (N : News h₀ L h ((sd, osd) :: (fr ++ tl))) (hS : Scn prog w pg gl z st tl) (hA : Apart fr tl) (hA0 : ∀ q ∈ tl, q.1 ≠ sd) (hsf : ∀ p ∈ fr, p.1 ≠ sd) (hsm : Small z st) (hz : z ≤ 190) (h0 : 0 ≤ k) (h4 : k < 4) :
    ∃ gs ng R g, QPre prog w h₀ L h sd pg gl z osd fr st k gs ng R g ∧ ∀ q ∈ fr ++ tl, q ∈ (gl, listOf (gs.map fun g => Value.ref g.x).toArray ng) :: (g.x, instObj g.cl g.xd) :: (g.xd, dictOf [tyKey w.params g.fld g.t4 g.val, tyKey w.params "waiting" g.t5 (.ref g.w)] 2) :: (g.w, listOf g.vs.toArray g.n) :: R := by
  obtain ⟨p, ng, gs, T, x⟩ := hS
  have hlen := x.len
  obtain ⟨g, hg⟩ : ∃ g, gs[k.toNat]? = some g := ⟨gs[k.toNat]'(by omega), List.getElem?_eq_getElem _⟩
  obtain ⟨M0, pm, nd, plug⟩ := x.split hg
  have hk : ((k.toNat : Nat) : Int) = k := Int.toNat_of_nonneg h0
  have inl : ∀ q ∈ tl, q ∈ (sd, osd) :: (fr ++ tl) := fun q hq => .tail _ (List.mem_append_right _ hq)
  have hin := fun q => mem_rot (E := (gl, listOf (gs.map fun g => Value.ref g.x).toArray ng) :: g.ent w.params) (fr := fr) pm q
  have NO := news_sub N (List.forall_mem_cons.mpr ⟨.head _, fun q hq => .tail _ ((hin q).mpr hq)⟩)
  have sep := front_sep (E := (gl, listOf (gs.map fun g => Value.ref g.x).toArray ng) :: g.ent w.params) pm nd
    (List.forall_mem_cons.mpr ⟨nt_list, List.forall_mem_cons.mpr ⟨nt_ref, List.forall_mem_cons.mpr ⟨nt_dict, List.forall_mem_cons.mpr ⟨nt_list, List.forall_mem_nil _⟩⟩⟩⟩) x.tup N inl hA
  have inE : ∀ a ∈ [gl, g.x, g.xd, g.w], ∃ o, (a, o) ∈ tl := fun a ha => by
    obtain ⟨e, he, rfl⟩ := List.mem_map.mp (show a ∈ ((gl, listOf (gs.map fun g => Value.ref g.x).toArray ng) :: g.ent w.params).map (·.1) from ha)
    exact ⟨e.2, pm.mem_iff.mpr (List.mem_append_left (as := (gl, listOf (gs.map fun g => Value.ref g.x).toArray ng) :: g.ent w.params) _ he)⟩
  have sdE : ∀ a ∈ [gl, g.x, g.xd, g.w], a ≠ sd := fun a ha => (inE a ha).elim fun o h => hA0 _ h
  have sdR : ∀ q ∈ M0 ++ T ++ fr, q.1 ≠ sd := fun q hq => (List.mem_append.mp ((hin q).mpr (List.mem_append_right _ hq))).elim (hsf q) (hA0 q)
  have nd4 : [gl, g.x, g.xd, g.w].Nodup := (List.nodup_append.mp (show ([gl, g.x, g.xd, g.w] ++ M0.map (·.1)).Nodup from nd)).1
  refine ⟨gs, ng, M0 ++ T ++ fr, g, ⟨by rw [List.getElem?_map, hg]; rfl, x.ok _ _ hg, NO, List.nodup_cons.mpr ⟨fun h => sdE _ h rfl, nd4⟩, List.forall_mem_cons.mpr ⟨sdR, sep⟩, ?_, ?_⟩, fun q hq => (hin q).mp hq⟩
  · have := (x.ok _ _ hg).que.length_eq (h := default) (fun _ h => nomatch h)
    have h2 := hsm.que k
    rw [hk] at this
    rw [this, List.length_map]
    omega
  · intro g' st' h' l r o1 o2 hx hxd hh hc hr hok ho hq hcc nl nr nw wl wr N'
    have nd3 := nd4
    simp only [List.nodup_cons, List.mem_cons, List.not_mem_nil, or_false, not_or] at nd3
    obtain ⟨⟨_, _, a3⟩, ⟨_, b2⟩, c1, _⟩ := nd3
    have F4 : ∀ {y : Addr}, gl ≠ y → g.x ≠ y → g.xd ≠ y → g'.w ≠ y → ∀ a ∈ [gl, g.x, g.xd, g'.w], a ≠ y := fun h1 h2 h3 h4 =>
      List.forall_mem_cons.mpr ⟨h1, List.forall_mem_cons.mpr ⟨h2, List.forall_mem_cons.mpr ⟨h3, List.forall_mem_cons.mpr ⟨h4, List.forall_mem_nil _⟩⟩⟩⟩
    have ofN : ∀ {y : Addr}, New y [sd, gl, g.x, g.xd, g.w] (M0 ++ T ++ fr) → (gl ≠ y ∧ g.x ≠ y ∧ g.xd ≠ y) ∧ sd ≠ y := fun n => ⟨⟨n.1 _ (.tail _ (.head _)), n.1 _ (.tail _ (.tail _ (.head _))), n.1 _ (.tail _ (.tail _ (.tail _ (.head _))))⟩, n.1 _ (.head _)⟩
    have ofW : ∀ {y : Addr}, y = g.w ∨ New y [sd, gl, g.x, g.xd, g.w] (M0 ++ T ++ fr) → ((gl ≠ y ∧ g.x ≠ y ∧ g.xd ≠ y) ∧ sd ≠ y) ∧ ∀ q ∈ M0 ++ T ++ fr, q.1 ≠ y := fun {y} h => by
      rcases h with e | n
      · rw [e]; exact ⟨⟨⟨a3, b2, c1⟩, Ne.symm (sdE _ (.tail _ (.tail _ (.tail _ (.head _)))))⟩, sep _ (.tail _ (.tail _ (.tail _ (.head _))))⟩
      · exact ⟨ofN n, n.2⟩
    obtain ⟨⟨⟨w1, w2, w3⟩, w0⟩, wR⟩ := ofW nw
    obtain ⟨⟨⟨r1, r2, r3⟩, r0⟩, rR⟩ := ofW nr
    obtain ⟨⟨l1, l2, l3⟩, l0⟩ := ofN nl
    have wx : g'.w ∉ gl :: g.x :: g.xd :: M0.map (·.1) := fun h => by
      rcases List.mem_append.mp (show g'.w ∈ [gl, g.x, g.xd] ++ M0.map (·.1) from h) with h | h
      · simp only [List.mem_cons, List.not_mem_nil, or_false] at h
        exact h.elim (Ne.symm w1) fun h => h.elim (Ne.symm w2) (Ne.symm w3)
      · obtain ⟨q, hq, e⟩ := List.mem_map.mp h
        exact wR q (List.mem_append_left _ (List.mem_append_left _ hq)) e
    have hS' := plug g' st' hx hxd hh hc hr hok (fun j gj hj y => y.other (k := k) (by omega) ho hq hcc) wx
    have e' : ((gl, listOf (gs.map fun g => Value.ref g.x).toArray ng) :: g'.ent w.params).map (·.1) = [gl, g.x, g.xd, g'.w] := by
      unfold Gt.ent; rw [hx, hxd]; rfl
    have A : Apart ((l, o1) :: (r, o2) :: (sd, osd) :: fr) (((gl, listOf (gs.map fun g => Value.ref g.x).toArray ng) :: g'.ent w.params) ++ (M0 ++ T)) := by
      have ap : ∀ {y : Addr} {o : Obj}, (∀ a ∈ [gl, g.x, g.xd, g'.w], a ≠ y) → (∀ q ∈ M0 ++ T ++ fr, q.1 ≠ y) → ∀ q ∈ ((gl, listOf (gs.map fun g => Value.ref g.x).toArray ng) :: g'.ent w.params) ++ (M0 ++ T), q.1 ≠ (y, o).1 := fun {y o} h1 h2 q hq => by
        rcases List.mem_append.mp hq with h | h
        · exact h1 _ (e' ▸ List.mem_map.mpr ⟨q, h, rfl⟩)
        · exact h2 q (List.mem_append_left _ h)
      refine apartc (ap (F4 l1 l2 l3 wl) nl.2) (apartc (ap (F4 r1 r2 r3 wr) rR) (apartc (ap (F4 (sdE _ (.head _)) (sdE _ (.tail _ (.head _))) (sdE _ (.tail _ (.tail _ (.head _)))) (Ne.symm w0)) sdR) (apart3 (fun q hq => ?_) (fun q hq y hy => ?_) (fun q hq y hy => ?_))))
      · rw [e']
        have hE := fun a (ha : a ∈ [gl, g.x, g.xd, g.w]) => show a ≠ q.1 from (inE a ha).elim fun o h => hA q hq (a, o) h
        exact F4 (hE _ (.head _)) (hE _ (.tail _ (.head _))) (hE _ (.tail _ (.tail _ (.head _)))) (Ne.symm (wR q (List.mem_append_right _ hq)))
      · exact hA q hq y (pm.mem_iff.mpr (List.mem_append_right ((gl, listOf (gs.map fun g => Value.ref g.x).toArray ng) :: g.ent w.params) (List.mem_append_left _ hy)))
      · exact hA q hq y (pm.mem_iff.mpr (List.mem_append_right ((gl, listOf (gs.map fun g => Value.ref g.x).toArray ng) :: g.ent w.params) (List.mem_append_right _ hy)))
    refine ⟨_, news_sub N' fun q hq => ?_, hS', A, fun p hp => nl.2 p (List.mem_append_right _ hp), fun p hp => rR p (List.mem_append_right _ hp), Ne.symm l0, Ne.symm r0⟩
    rcases List.mem_append.mp (show q ∈ [(l, o1), (r, o2), (sd, osd)] ++ (fr ++ ((gl, listOf (gs.map fun g => Value.ref g.x).toArray ng) :: (g'.ent w.params ++ (M0 ++ T)))) from hq) with h | h
    · exact List.mem_append_left _ h
    · have h2 := (mem_rot (E := (gl, listOf (gs.map fun g => Value.ref g.x).toArray ng) :: g'.ent w.params) (fr := fr) (.refl _) q).mp h
      unfold Gt.ent at h2
      rw [hx, hxd] at h2
      exact List.mem_append_right [(l, o1), (r, o2), (sd, osd)] h2
end
theorem LReads.head_int {vs : List Value} {k : Int} {q : List Int} (r : LReads [] vs (List.map .int (k :: q))) : ∃ t us, vs = .int k t :: us ∧ LReads [] us (q.map .int) := by
  have r' := r default (fun _ h => nomatch h)
  rw [List.map_cons] at r'
  cases vs with
  | nil => exact nomatch r'
  | cons v us =>
    obtain ⟨k', t, rfl, hk⟩ := LReads.at_int (i := 0) r rfl
    simp at hk
    subst hk
    refine ⟨t, us, rfl, fun h hh => ?_⟩
    have r2 := r h hh
    rw [List.map_cons] at r2
    generalize hy : ([] : List Addr) = ad at r2
    cases r2 with
    | @cons _ _ _ _ as bs a b =>
      cases as with
      | nil => simp at hy; subst hy; exact b
      | cons _ _ => simp at hy
end Mine
end
section
open PySem PySem.W PySem.Calls PyProof.Rows PySem.Spec PySem.SeqAt



namespace Mine
theorem TabO.le {prog : Program} {w : World} {enc : Int → PyData} {I : Enc enc} {tl : List (Addr × Obj)} {o : Obj} {n n' : Nat} {cnt : Int → Int} (x : TabO prog w I tl o n cnt) (h : n ≤ n') : TabO prog w I tl o n' cnt :=
  let ⟨es, ep, xs, a, b, c, e, f, g, i⟩ := x; ⟨es, ep, xs, a, b, c, e, Nat.le_trans f h, g, i⟩
theorem nodup5 {a b c d e f : Addr} {M : List Addr} (h : (a :: b :: c :: d :: e :: M).Nodup) (n : f ∉ a :: b :: c :: d :: M) : (a :: b :: c :: d :: f :: M).Nodup := by
  simp only [List.nodup_cons, List.mem_cons, not_or] at h n ⊢
  obtain ⟨⟨a1, a2, a3, a4, a5⟩, ⟨b1, b2, b3, b4⟩, ⟨c1, c2, c3⟩, ⟨d1, d2⟩, e1, e2⟩ := h
  obtain ⟨n1, n2, n3, n4, n5⟩ := n
  exact ⟨⟨a1, a2, a3, Ne.symm n1, a5⟩, ⟨b1, b2, Ne.symm n2, b4⟩, ⟨c1, Ne.symm n3, c3⟩, ⟨Ne.symm n4, d2⟩, n5, e2⟩
section
variable {prog : Program} {w : World} {h₀ h : Heap} {L sd pg gl : Addr} {z : Nat} {osd : Obj} {fr tl : List (Addr × Obj)} {st : St}
/-- the plain gates in front -/
structure PPre (prog : Program) (w : World) (h₀ : Heap) (L : Addr) (h : Heap) (sd pg gl : Addr) (z : Nat) (osd : Obj) (fr : List (Addr × Obj)) (st : St) (p : Pz) (TT R : List (Addr × Obj)) : Prop where
  pge : p.pg = pg
  hs : LReads TT p.hs (st.held.map enc1)
  ws : RowsIn enc1 TT p.ws st.rows
  oc : TabO prog w enc1I TT p.oc z st.cnt
  lo : (p.dc == sysModules) = false
  tup : TupTail TT
  sub : ∀ q ∈ TT, q ∈ R
  news : News h₀ L h ((sd, osd) :: (p.pg, instObj 124 p.pd) :: (p.pd, pgD w.params p.t4 p.t5 p.t6 p.hl p.dc p.wl) :: (p.hl, listOf p.hs.toArray p.n1) :: (p.dc, p.oc) :: (p.wl, listOf p.ws.toArray p.n3) :: R)
  nd : [sd, p.pg, p.pd, p.hl, p.dc, p.wl].Nodup
  sep : ∀ a ∈ [sd, p.pg, p.pd, p.hl, p.dc, p.wl], ∀ q ∈ R, q.1 ≠ a
  len : p.hs.length ≤ 200
  len2 : p.ws.length ≤ 200
  back : ∀ (st' : St) (h' : Heap) (l r : Addr) (vb : Array Value) (vr : Array Value) (nb nr : Nat) (hs' : List Value) (n1' : Nat) (oc' : Obj) (nt' : Nat) (W : Addr) (ws' : List Value) (n3' : Nat) (ex : List (Addr × Obj)),
    News h₀ L h' ((l, listOf vb nb) :: (r, listOf vr nr) :: (sd, osd) :: (p.pg, instObj 124 p.pd) :: (p.pd, pgD w.params p.t4 p.t5 p.t6 p.hl p.dc W) :: (p.hl, listOf hs'.toArray n1') :: (p.dc, oc') :: (W, listOf ws'.toArray n3') :: R) →
    RowsIn enc1 ex ws' st'.rows → LReads ex hs' (st'.held.map enc1) → TabO prog w enc1I ex oc' nt' st'.cnt → (∀ q ∈ TT, q ∈ ex) → nt' ≤ z + 1 → News h₀ L h' ex → TupTail ex → st'.o = st.o → st'.q = st.q → st'.c = st.c →
    New l [sd, p.pg, p.pd, p.hl, p.dc, p.wl] R → New r [sd, p.pg, p.pd, p.hl, p.dc, p.wl] R → (W = p.wl ∨ New W [sd, p.pg, p.pd, p.hl, p.dc, p.wl] R) → W ≠ l → W ≠ r → (∀ q ∈ ex, q ∈ TT ∨ New q.1 [sd, p.pg, p.pd, p.hl, p.dc, p.wl] R) →
    ∃ tl', News h₀ L h' ((l, listOf vb nb) :: (r, listOf vr nr) :: (sd, osd) :: (fr ++ tl')) ∧ Scn prog w pg gl (z + 1) st' tl' ∧ Apart ((l, listOf vb nb) :: (r, listOf vr nr) :: (sd, osd) :: fr) tl' ∧ (∀ p ∈ fr, p.1 ≠ l) ∧ (∀ p ∈ fr, p.1 ≠ r) ∧ l ≠ sd ∧ r ≠ sd
theorem p_pre (N : News h₀ L h ((sd, osd) :: (fr ++ tl))) (hS : Scn prog w pg gl z st tl) (hA : Apart fr tl) (hA0 : ∀ q ∈ tl, q.1 ≠ sd) (hsf : ∀ p ∈ fr, p.1 ≠ sd) (hsm : Small z st) (hz : z ≤ 190) :
    ∃ p TT R, PPre prog w h₀ L h sd pg gl z osd fr st p TT R ∧ ∀ q ∈ fr ++ tl, q ∈ (p.pg, instObj 124 p.pd) :: (p.pd, pgD w.params p.t4 p.t5 p.t6 p.hl p.dc p.wl) :: (p.hl, listOf p.hs.toArray p.n1) :: (p.dc, p.oc) :: (p.wl, listOf p.ws.toArray p.n3) :: R := by
  obtain ⟨p, ng, gs, T, x⟩ := hS
  have pm := x.perm
  have inl : ∀ q ∈ tl, q ∈ (sd, osd) :: (fr ++ tl) := fun q hq => .tail _ (List.mem_append_right _ hq)
  have hin := fun q => mem_rot (fr := fr) pm q
  have NO := news_sub N (List.forall_mem_cons.mpr ⟨.head _, fun q hq => .tail _ ((hin q).mpr hq)⟩)
  have nd := x.nodup
  rw [List.map_append] at nd
  have hdc : p.oc.cls ≠ .type "tuple" := by
    rw [x.oc.exact.1]; exact nt_dict
  have sep := front_sep pm nd (List.forall_mem_cons.mpr ⟨nt_ref, List.forall_mem_cons.mpr ⟨nt_dict, List.forall_mem_cons.mpr ⟨nt_list, List.forall_mem_cons.mpr ⟨hdc, List.forall_mem_cons.mpr ⟨nt_list, List.forall_mem_nil _⟩⟩⟩⟩⟩) x.tup N inl hA
  have inE : ∀ a ∈ [p.pg, p.pd, p.hl, p.dc, p.wl], ∃ o, (a, o) ∈ tl := fun a ha => by
    obtain ⟨e, he, rfl⟩ := List.mem_map.mp (show a ∈ (p.ent w.params).map (·.1) from ha)
    exact ⟨e.2, pm.mem_iff.mpr (List.mem_append_left _ he)⟩
  have sdE : ∀ a ∈ [p.pg, p.pd, p.hl, p.dc, p.wl], a ≠ sd := fun a ha => (inE a ha).elim fun o h => hA0 _ h
  have frE : ∀ q ∈ fr, ∀ a ∈ [p.pg, p.pd, p.hl, p.dc, p.wl], a ≠ q.1 := fun q hq a ha => (inE a ha).elim fun o h => hA q hq (a, o) h
  have sdR : ∀ q ∈ gateL w.params gl ng gs ++ T ++ fr, q.1 ≠ sd := fun q hq => (List.mem_append.mp ((hin q).mpr (List.mem_append_right _ hq))).elim (hsf q) (hA0 q)
  have i6 : ∀ q ∈ gateL w.params gl ng gs, q ∈ tl := fun q hq => pm.mem_iff.mpr (List.mem_append_right _ (List.mem_append_left _ hq))
  have i7 : ∀ q ∈ T, q ∈ tl := fun q hq => pm.mem_iff.mpr (List.mem_append_right _ (List.mem_append_right _ hq))
  have nd5 : [p.pg, p.pd, p.hl, p.dc, p.wl].Nodup := (List.nodup_append.mp nd).1
  refine ⟨p, T, gateL w.params gl ng gs ++ T ++ fr, ⟨x.pg, x.hs, x.ws, x.oc, x.lo, x.tup, fun q hq => List.mem_append_left _ (List.mem_append_right _ hq), NO, List.nodup_cons.mpr ⟨fun h => sdE _ h rfl, nd5⟩, List.forall_mem_cons.mpr ⟨sdR, sep⟩, ?_, ?_, ?_⟩, fun q hq => (hin q).mp hq⟩
  · have := x.hs.length_eq (h := h) (fun q hq => (N q (inl _ (i7 q hq))).1)
    have h2 := hsm.held
    rw [List.length_map] at this
    omega
  · have := x.ws.length
    have h2 := hsm.rows
    omega
  · intro st' h' l r vb vr nb nr hs' n1' oc' nt' W ws' n3' ex N' rw' rh' ro' tt hnt Nx hx so sq sc nl nr2 nw wl wr nx
    have nd3 := nd5
    simp only [List.nodup_cons, List.mem_cons, List.not_mem_nil, or_false, not_or] at nd3
    obtain ⟨⟨_, _, _, a4⟩, ⟨_, _, b3⟩, ⟨_, c2⟩, d1, _⟩ := nd3
    have F5 : ∀ {y : Addr}, (p.pg ≠ y ∧ p.pd ≠ y ∧ p.hl ≠ y ∧ p.dc ≠ y) → W ≠ y → ∀ a ∈ [p.pg, p.pd, p.hl, p.dc, W], a ≠ y := fun ⟨h1, h2, h3, h4⟩ h5 =>
      List.forall_mem_cons.mpr ⟨h1, List.forall_mem_cons.mpr ⟨h2, List.forall_mem_cons.mpr ⟨h3, List.forall_mem_cons.mpr ⟨h4, List.forall_mem_cons.mpr ⟨h5, List.forall_mem_nil _⟩⟩⟩⟩⟩
    have of5 : ∀ {y : Addr}, (∀ a ∈ [p.pg, p.pd, p.hl, p.dc, p.wl], a ≠ y) → p.pg ≠ y ∧ p.pd ≠ y ∧ p.hl ≠ y ∧ p.dc ≠ y := fun n =>
      ⟨n _ (.head _), n _ (.tail _ (.head _)), n _ (.tail _ (.tail _ (.head _))), n _ (.tail _ (.tail _ (.tail _ (.head _))))⟩
    have nE : ∀ {y : Addr}, New y [sd, p.pg, p.pd, p.hl, p.dc, p.wl] (gateL w.params gl ng gs ++ T ++ fr) → ∀ a ∈ [p.pg, p.pd, p.hl, p.dc, p.wl], a ≠ y := fun n a ha => n.1 a (.tail _ ha)
    have hW : ((p.pg ≠ W ∧ p.pd ≠ W ∧ p.hl ≠ W ∧ p.dc ≠ W) ∧ sd ≠ W) ∧ ∀ q ∈ gateL w.params gl ng gs ++ T ++ fr, q.1 ≠ W := by
      rcases nw with e | n
      · rw [e]; exact ⟨⟨⟨a4, b3, c2, d1⟩, Ne.symm (sdE _ (.tail _ (.tail _ (.tail _ (.tail _ (.head _))))))⟩, sep _ (.tail _ (.tail _ (.tail _ (.tail _ (.head _)))))⟩
      · exact ⟨⟨of5 (nE n), n.1 _ (.head _)⟩, n.2⟩
    obtain ⟨⟨wE, w0⟩, wR⟩ := hW
    have wx : W ∉ p.pg :: p.pd :: p.hl :: p.dc :: (gateL w.params gl ng gs).map (·.1) := fun h => by
      rcases List.mem_append.mp (show W ∈ [p.pg, p.pd, p.hl, p.dc] ++ (gateL w.params gl ng gs).map (·.1) from h) with h | h
      · obtain ⟨h1, h2, h3, h4⟩ := wE
        simp only [List.mem_cons, List.not_mem_nil, or_false] at h
        exact h.elim (Ne.symm h1) fun h => h.elim (Ne.symm h2) fun h => h.elim (Ne.symm h3) (Ne.symm h4)
      · obtain ⟨q, hq, e⟩ := List.mem_map.mp h
        exact wR q (List.mem_append_left _ (List.mem_append_left _ hq)) e
    have N4 : News h₀ L h' ((l, listOf vb nb) :: (r, listOf vr nr) :: (sd, osd) :: (fr ++ (Pz.ent w.params { p with wl := W, hs := hs', ws := ws', n1 := n1', n3 := n3', oc := oc' } ++ (gateL w.params gl ng gs ++ ex)))) := fun q hq => by
      rcases List.mem_append.mp (show q ∈ [(l, listOf vb nb), (r, listOf vr nr), (sd, osd)] ++ (fr ++ (Pz.ent w.params { p with wl := W, hs := hs', ws := ws', n1 := n1', n3 := n3', oc := oc' } ++ (gateL w.params gl ng gs ++ ex))) from hq) with h | h
      · exact N' q (List.mem_append_left (Pz.ent w.params { p with wl := W, hs := hs', ws := ws', n1 := n1', n3 := n3', oc := oc' } ++ (gateL w.params gl ng gs ++ T ++ fr)) h)
      · rcases List.mem_append.mp h with h | h
        · exact N' q (List.mem_append_right [(l, listOf vb nb), (r, listOf vr nr), (sd, osd)] (List.mem_append_right (Pz.ent w.params { p with wl := W, hs := hs', ws := ws', n1 := n1', n3 := n3', oc := oc' }) (List.mem_append_right (gateL w.params gl ng gs ++ T) h)))
        · rcases List.mem_append.mp h with h | h
          · exact N' q (List.mem_append_right [(l, listOf vb nb), (r, listOf vr nr), (sd, osd)] (List.mem_append_left (gateL w.params gl ng gs ++ T ++ fr) h))
          · rcases List.mem_append.mp h with h | h
            · exact N' q (List.mem_append_right [(l, listOf vb nb), (r, listOf vr nr), (sd, osd)] (List.mem_append_right (Pz.ent w.params { p with wl := W, hs := hs', ws := ws', n1 := n1', n3 := n3', oc := oc' }) (List.mem_append_left _ (List.mem_append_left _ h))))
            · exact Nx q h
    have exN : ∀ q ∈ ex, q ∈ (l, listOf vb nb) :: (r, listOf vr nr) :: (sd, osd) :: (fr ++ (Pz.ent w.params { p with wl := W, hs := hs', ws := ws', n1 := n1', n3 := n3', oc := oc' } ++ (gateL w.params gl ng gs ++ ex))) := fun q hq =>
      .tail _ (.tail _ (.tail _ (List.mem_append_right _ (List.mem_append_right _ (List.mem_append_right _ hq)))))
    have ap : ∀ {y : Addr} {o : Obj}, (∀ a ∈ [p.pg, p.pd, p.hl, p.dc, W], a ≠ y) → (∀ q ∈ gateL w.params gl ng gs, q.1 ≠ y) → (∀ q ∈ ex, q.1 ≠ y) → ∀ q ∈ Pz.ent w.params { p with wl := W, hs := hs', ws := ws', n1 := n1', n3 := n3', oc := oc' } ++ (gateL w.params gl ng gs ++ ex), q.1 ≠ (y, o).1 := fun {y o} h1 h2 h3 q hq => by
      rcases List.mem_append.mp hq with h | h
      · exact h1 _ (List.mem_map.mpr ⟨q, h, rfl⟩ : q.1 ∈ (Pz.ent w.params { p with wl := W, hs := hs', ws := ws', n1 := n1', n3 := n3', oc := oc' }).map (·.1))
      · exact (List.mem_append.mp h).elim (h2 q) (h3 q)
    have gR : ∀ {y : Addr}, (∀ q ∈ gateL w.params gl ng gs ++ T ++ fr, q.1 ≠ y) → ∀ q ∈ gateL w.params gl ng gs, q.1 ≠ y := fun h q hq => h q (List.mem_append_left _ (List.mem_append_left _ hq))
    have A : Apart ((l, listOf vb nb) :: (r, listOf vr nr) :: (sd, osd) :: fr) (Pz.ent w.params { p with wl := W, hs := hs', ws := ws', n1 := n1', n3 := n3', oc := oc' } ++ (gateL w.params gl ng gs ++ ex)) := by
      refine apartc (ap (F5 (of5 (nE nl)) wl) (gR nl.2) (hx.ne (d := l) (o := listOf vb nb) N4 exN (.head _) nt_list)) (apartc (ap (F5 (of5 (nE nr2)) wr) (gR nr2.2) (hx.ne (d := r) (o := listOf vr nr) N4 exN (.tail _ (.head _)) nt_list))
        (apartc (ap (F5 (of5 sdE) (Ne.symm w0)) (gR sdR) fun q hq => ?_) (apart3 (fun q hq => F5 (of5 (frE q hq)) (Ne.symm (wR q (List.mem_append_right _ hq)))) (fun q hq y hy => hA q hq y (i6 y hy)) fun q hq y hy => ?_)))
      · rcases nx q hq with h | n
        · exact hA0 _ (i7 _ h)
        · exact Ne.symm (n.1 _ (.head _))
      · rcases nx y hy with h | n
        · exact hA q hq y (i7 _ h)
        · exact Ne.symm (n.2 q (List.mem_append_right _ hq))
    refine ⟨_, N4, ⟨_, ng, gs, ex, .refl _, x.pg, ?_, hx, rh', rw', ro'.le hnt, x.lo, x.len, fun i g hg => ?_⟩, A, fun p hp => nl.2 p (List.mem_append_right _ hp), fun p hp => nr2.2 p (List.mem_append_right _ hp), Ne.symm (nl.1 _ (.head _)), Ne.symm (nr2.1 _ (.head _))⟩
    · rw [List.map_append]
      exact nodup5 nd wx
    · have := x.ok i g hg
      exact ⟨fun z => so ▸ this.lock z, fun z => sc ▸ this.group z, sq ▸ this.que⟩
end
end Mine
end
section
open PySem PySem.W PySem.Calls PyProof.Rows PySem.Spec PySem.SeqAt


namespace Mine
theorem rem1_mem {q : List Int} {x k : Int} (h : x ∈ q) (n : x ≠ k) : x ∈ rem1 q k := by
  unfold rem1
  rw [← List.erase_eq_eraseIdx_of_idxOf (l := q) (a := k) (i := q.idxOf k) rfl]
  exact (List.mem_erase_of_ne n).mpr h
theorem remAll_mem {x : Int} : ∀ {out q : List Int}, x ∈ q → x ∉ out → x ∈ remAll q out
  | [], q, h, _ => h
  | k :: out, q, h, n => by
    show x ∈ remAll (rem1 q k) out
    exact remAll_mem (rem1_mem h (fun e => n (e ▸ .head _))) (fun e => n (.tail _ e))
theorem remAll_len : ∀ {out q : List Int}, (remAll q out).length ≤ q.length
  | [], _ => Nat.le_refl _
  | k :: out, q => by
    show (remAll (rem1 q k) out).length ≤ _
    exact Nat.le_trans remAll_len (List.length_eraseIdx_le ..)
theorem remAll_ok {out q : List Int} (nd : out.Nodup) (sub : ∀ x ∈ out, x ∈ q) : ∀ i x, out[i]? = some x → (remAll q (out.take i)).contains x = true := fun i x h => by
  have hx : x ∈ out := List.mem_of_getElem? h
  have : x ∉ out.take i := fun hm => by
    obtain ⟨j, hj, e⟩ := List.mem_iff_getElem.mp hm
    rw [List.length_take] at hj
    rw [List.getElem_take] at e
    obtain ⟨hi, e2⟩ := List.getElem?_eq_some_iff.mp h
    have := (List.getElem_inj nd).mp (e.trans e2.symm)
    omega
  simpa using remAll_mem (sub x hx) this
/-- both sides of the scene, and who sleeps, as they belong together -/
structure Inv (z : Nat) (st : St) (asl : List Int) : Prop where
  m : Match st
  hlen : st.held.length ≤ z
  rlen : st.rows.length ≤ z
  alen : asl.length ≤ z
  nd : st.held.Nodup
  dist : (st.rows.map (·.2)).Nodup
  sub : ∀ r ∈ st.rows, r.2 ∈ asl
  out : ∀ k, ¬ (0 ≤ k ∧ k < 4) → st.q k = []
theorem Inv.qlen {z : Nat} {st : St} {asl : List Int} (I : Inv z st asl) (k : Int) : (st.q k).length ≤ z := by
  by_cases h : 0 ≤ k ∧ k < 4
  · rw [I.m.que k h.1 h.2, List.length_map]
    exact Nat.le_trans (List.length_filter_le ..) I.rlen
  · rw [I.out k h]; exact Nat.zero_le _
theorem Inv.small {z : Nat} {st : St} {asl : List Int} (I : Inv z st asl) : Small z st := ⟨I.hlen, I.rlen, fun k => Nat.le_succ_of_le (I.qlen k)⟩
/-- the words that a deed may have, with their places -/
inductive Deed : Str → Int → Prop
  | lock {k} : 0 ≤ k → k < 2 → Deed "lock" k
  | unlock {k} : 0 ≤ k → k < 2 → Deed "unlock" k
  | add {k} : 2 ≤ k → k < 4 → Deed "add" k
  | wait {k} : 2 ≤ k → k < 4 → Deed "wait" k
/-- what a deed does: both tell the same -/
structure Told (z : Nat) (st : St) (asl : List Int) (g : Int) (word : Str) (k many : Int) (b : Bool) (out : List Int) (st1 st2 : St) (asl1 : List Int) : Prop where
  q : QStep st g word k many b out st1
  p : PStep st1 g word k many b out st2
  s1 : Small z st1
  inv : Inv (z + 1) st2 (remAll asl1 out)
  t : b = true → asl1 = asl
  f : b = false → asl1 = asl ++ [g]
  rem : ∀ i x, out[i]? = some x → (remAll asl1 (out.take i)).contains x = true
theorem filter_append_one {rows : List (Int × Int)} {k g j : Int} : ((rows ++ [(k, g)]).filter (fun r => decide (r.1 = j))).map (·.2) = (rows.filter (fun r => decide (r.1 = j))).map (·.2) ++ (if j = k then [g] else []) := by
  by_cases h : j = k
  · subst h; simp
  · have : ¬ k = j := fun e => h e.symm
    simp [h, this]
theorem inv_row {z : Nat} {st : St} {asl : List Int} {k g : Int} (I : Inv z st asl) (hg : g ∉ asl) (h0 : 0 ≤ k) (h4 : k < 4) :
    Inv (z + 1) { st with q := upd st.q k (st.q k ++ [g]), rows := st.rows ++ [(k, g)] } (asl ++ [g]) where
  m := ⟨fun j a b => by
      show upd st.q k (st.q k ++ [g]) j = ((st.rows ++ [(k, g)]).filter (fun r => decide (r.1 = j))).map (·.2)
      rw [filter_append_one]
      by_cases h : j = k
      · subst h; rw [upd_same, I.m.que _ a b, if_pos rfl]
      · rw [upd_other h, I.m.que _ a b, if_neg h, List.append_nil], I.m.lock, I.m.group⟩
  hlen := Nat.le_succ_of_le I.hlen
  rlen := by show (st.rows ++ [(k, g)]).length ≤ _; rw [List.length_append]; exact Nat.succ_le_succ I.rlen
  alen := by rw [List.length_append]; exact Nat.succ_le_succ I.alen
  nd := I.nd
  dist := by
    show ((st.rows ++ [(k, g)]).map (·.2)).Nodup
    rw [List.map_append, List.nodup_append]
    refine ⟨I.dist, by simp, fun x hx y hy e => ?_⟩
    simp at hy
    subst e
    obtain ⟨r, hr, e⟩ := List.mem_map.mp hx
    exact hg (hy ▸ e ▸ I.sub r hr)
  sub := fun r hr => by
    rcases List.mem_append.mp hr with hr | hr
    · exact List.mem_append_left _ (I.sub r hr)
    · simp at hr; subst hr; simp
  out := fun j h => by
    show upd st.q k _ j = []
    have hjk : j ≠ k := fun e => h (by subst e; exact ⟨h0, h4⟩)
    rw [upd_other hjk]
    exact I.out j h
theorem small_q {z : Nat} {st : St} {asl : List Int} {k g : Int} (I : Inv z st asl) : Small z { st with q := upd st.q k (st.q k ++ [g]) } :=
  ⟨I.hlen, I.rlen, fun j => by
    show (upd st.q k (st.q k ++ [g]) j).length ≤ _
    by_cases h : j = k
    · subst h; rw [upd_same, List.length_append]; exact Nat.succ_le_succ (I.qlen j)
    · rw [upd_other h]; exact Nat.le_succ_of_le (I.qlen j)⟩
theorem split_row {k r : Int} {qs : List Int} : ∀ {rows : List (Int × Int)}, (rows.filter (fun r => decide (r.1 = k))).map (·.2) = r :: qs → ∃ pre post, rows = pre ++ (k, r) :: post ∧ (∀ x ∈ pre, x.1 ≠ k) ∧ (post.filter (fun r => decide (r.1 = k))).map (·.2) = qs
  | [], h => by simp at h
  | (j, y) :: rows, h => by
    by_cases e : j = k
    · subst e
      simp at h
      obtain ⟨rfl, h⟩ := h
      exact ⟨[], rows, rfl, by simp, by simpa using h⟩
    · simp [e] at h
      obtain ⟨pre, post, rfl, a, b⟩ := split_row (rows := rows) (by simpa using h)
      refine ⟨(j, y) :: pre, post, rfl, fun x hx => ?_, b⟩
      rcases List.mem_cons.mp hx with rfl | hx
      · exact e
      · exact a x hx
theorem erase_contains {l : List Int} (nd : l.Nodup) {k j : Int} (_hk : l.contains k = true) : (l.eraseIdx (l.idxOf k)).contains j = (if j = k then false else l.contains j) := by
  rw [← List.erase_eq_eraseIdx_of_idxOf (l := l) (a := k) (i := l.idxOf k) rfl]
  have h1 : (l.erase k).contains j = decide (j ∈ l.erase k) := by simp
  have h2 : l.contains j = decide (j ∈ l) := by simp
  rw [h1, h2]
  have h3 := nd.mem_erase_iff (a := j) (b := k)
  by_cases h : j = k
  · have : ¬ j ∈ l.erase k := fun m => (h3.mp m).1 h
    rw [if_pos h]; exact decide_eq_false this
  · rw [if_neg h]
    have : (j ∈ l.erase k) ↔ j ∈ l := ⟨fun m => (h3.mp m).2, fun m => h3.mpr ⟨h, m⟩⟩
    exact decide_eq_decide.mpr this
theorem erase_nodup {l : List Int} (nd : l.Nodup) (i : Nat) : (l.eraseIdx i).Nodup := nd.sublist (List.eraseIdx_sublist ..)
theorem nodup_map_inj {α β : Type} {f : α → β} : ∀ {l : List α} {a b : α}, (l.map f).Nodup → a ∈ l → b ∈ l → f a = f b → a = b
  | [], _, _, _, h, _, _ => nomatch h
  | x :: l, a, b, nd, ha, hb, e => by
    rw [List.map_cons, List.nodup_cons] at nd
    rcases List.mem_cons.mp ha with h1 | h1
    · rcases List.mem_cons.mp hb with h2 | h2
      · rw [h1, h2]
      · exact absurd (by rw [← h1, e]; exact List.mem_map_of_mem h2) nd.1
    · rcases List.mem_cons.mp hb with h2 | h2
      · exact absurd (by rw [← h2, ← e]; exact List.mem_map_of_mem h1) nd.1
      · exact nodup_map_inj nd.2 h1 h2 e
theorem told_free {z : Nat} {st : St} {asl : List Int} {g k many : Int} (I : Inv z st asl) (h0 : 0 ≤ k) (h2 : k < 2) (ho : st.o k = none) :
    Told z st asl g "lock" k many true [] { st with o := upd st.o k (some g) } { st with o := upd st.o k (some g), held := st.held ++ [k] } asl := by
  have hl := I.m.lock k h0 h2
  rw [ho] at hl
  refine ⟨.lock_free h0 h2 ho, .lock_free hl, ⟨I.hlen, I.rlen, I.small.que⟩, ⟨⟨I.m.que, fun j a b => ?_, I.m.group⟩, ?_, Nat.le_succ_of_le I.rlen, Nat.le_succ_of_le I.alen, ?_, I.dist, I.sub, I.out⟩, fun _ => rfl, fun h => (nomatch h), fun i x h => by simp at h⟩
  · show (st.held ++ [k]).contains j = (upd st.o k (some g) j).isSome
    by_cases h : j = k
    · subst h; rw [upd_same]; simp
    · rw [upd_other h, ← I.m.lock j a b]; simp [h]
  · show (st.held ++ [k]).length ≤ _
    rw [List.length_append]; exact Nat.succ_le_succ I.hlen
  · show (st.held ++ [k]).Nodup
    rw [List.nodup_append]
    refine ⟨I.nd, by simp, fun x hx y hy e => ?_⟩
    simp at hy
    subst hy e
    simp at hl
    exact hl hx
theorem told_held {z : Nat} {st : St} {asl : List Int} {g k many ow : Int} (I : Inv z st asl) (hg : g ∉ asl) (h0 : 0 ≤ k) (h2 : k < 2) (ho : st.o k = some ow) :
    Told z st asl g "lock" k many false [] { st with q := upd st.q k (st.q k ++ [g]) } { st with q := upd st.q k (st.q k ++ [g]), rows := st.rows ++ [(k, g)] } (asl ++ [g]) := by
  have hl := I.m.lock k h0 h2
  rw [ho] at hl
  have hc : (st.q k).contains g = false := by
    rw [I.m.que k h0 (by omega)]
    simp only [List.contains_eq_mem, decide_eq_false_iff_not, List.mem_map, not_exists, not_and]
    intro r hr e
    exact hg (e ▸ I.sub r (List.mem_filter.mp hr).1)
  exact ⟨.lock_held h0 h2 ho hc, .lock_held hl, small_q I, inv_row I hg h0 (by omega), fun h => (nomatch h), fun _ => rfl, fun i x h => by simp at h⟩
theorem told_first {z : Nat} {st : St} {asl : List Int} {g k many ow r : Int} {qs : List Int} (I : Inv z st asl) (h0 : 0 ≤ k) (h2 : k < 2) (ho : st.o k = some ow) (hqk : st.q k = r :: qs) :
    ∃ n, Told z st asl g "unlock" k many true [r] { st with o := upd st.o k (some r), q := upd st.q k qs } { st with o := upd st.o k (some r), q := upd st.q k qs, rows := st.rows.eraseIdx n } asl := by
  have hl := I.m.lock k h0 h2
  have hq := I.m.que k h0 (by omega)
  rw [ho] at hl
  rw [hqk] at hq
  obtain ⟨pre, post, hr, hpre, hpost⟩ := split_row hq.symm
  have he : st.rows.eraseIdx pre.length = pre ++ post := by
    rw [hr, List.eraseIdx_append_of_length_le (Nat.le_refl _)]; simp
  have hd := I.dist
  rw [hr, List.map_append, List.map_cons] at hd
  have hsubl : ((pre ++ post).map (·.2)).Nodup := by
    rw [List.map_append]
    exact hd.sublist (List.Sublist.append_left (List.sublist_cons_self _ _) _)
  have hnr : ∀ x ∈ pre ++ post, x.2 ≠ r := fun x hx e => by
    rw [List.nodup_append] at hd
    obtain ⟨d1, d2, d3⟩ := hd
    rcases List.mem_append.mp hx with hx | hx
    · exact d3 x.2 (List.mem_map_of_mem hx) r (.head _) e
    · refine (List.nodup_cons.mp d2).1 (List.mem_map.mpr ⟨x, hx, e⟩)
  have hrin : r ∈ asl := I.sub (k, r) (by rw [hr]; simp)
  refine ⟨_, .unl_first h0 h2 ho hqk, .unl_first hl hr hpre, ⟨I.hlen, I.rlen, fun j => ?_⟩, ⟨⟨fun j a b => ?_, fun j a b => ?_, I.m.group⟩, Nat.le_succ_of_le I.hlen, ?_, Nat.le_succ_of_le (Nat.le_trans remAll_len I.alen), I.nd, ?_, fun x hx => ?_, fun j h => ?_⟩, fun _ => rfl, fun h => (nomatch h), remAll_ok (by simp) (fun x hx => by simp at hx; exact hx ▸ hrin)⟩
  · show (upd st.q k qs j).length ≤ _
    by_cases h : j = k
    · subst h
      have := I.qlen j
      rw [hqk] at this
      rw [upd_same]
      exact Nat.le_succ_of_le (Nat.le_trans (Nat.le_succ _) this)
    · rw [upd_other h]; exact Nat.le_succ_of_le (I.qlen j)
  · show upd st.q k qs j = ((st.rows.eraseIdx pre.length).filter (fun r => decide (r.1 = j))).map (·.2)
    rw [he]
    by_cases h : j = k
    · subst h
      rw [upd_same, List.filter_append, List.map_append, hpost]
      have : pre.filter (fun r => decide (r.1 = j)) = [] := List.filter_eq_nil_iff.mpr fun x hx => by simpa using hpre x hx
      rw [this]; rfl
    · rw [upd_other h, I.m.que j a b, hr, List.filter_append, List.filter_append, List.filter_cons_of_neg (by simpa using fun e => h e.symm)]
  · show st.held.contains j = (upd st.o k (some r) j).isSome
    by_cases h : j = k
    · subst h; rw [upd_same, hl]; rfl
    · rw [upd_other h, I.m.lock j a b]
  · show (st.rows.eraseIdx pre.length).length ≤ _
    exact Nat.le_succ_of_le (Nat.le_trans (List.length_eraseIdx_le ..) I.rlen)
  · show ((st.rows.eraseIdx pre.length).map (·.2)).Nodup
    rw [he]; exact hsubl
  · have hx : x ∈ st.rows.eraseIdx pre.length := hx
    rw [he] at hx
    refine remAll_mem (I.sub x ?_) (by simpa using hnr x hx)
    rw [hr]
    rcases List.mem_append.mp hx with hx | hx
    · exact List.mem_append_left _ hx
    · exact List.mem_append_right _ (.tail _ hx)
  · show upd st.q k qs j = []
    have hjk : j ≠ k := fun e => h (by subst e; exact ⟨h0, by omega⟩)
    rw [upd_other hjk]; exact I.out j h
theorem deed_sem {z : Nat} {st : St} {asl : List Int} {g k many : Int} {word : Str} (I : Inv z st asl) (hg : g ∉ asl) (D : Deed word k) :
    (∃ b out st1 st2 asl1, Told z st asl g word k many b out st1 st2 asl1) ∨ (∃ tx, QBad st word k many tx ∧ PBad st word k many tx) := by
  cases D with
  | lock h0 h2 =>
    have hl := I.m.lock k h0 h2
    cases ho : st.o k with
    | none => exact .inl ⟨_, _, _, _, _, told_free I h0 h2 ho⟩
    | some ow => exact .inl ⟨_, _, _, _, _, told_held I hg h0 h2 ho⟩
  | unlock h0 h2 =>
    have hl := I.m.lock k h0 h2
    have hq := I.m.que k h0 (by omega)
    cases ho : st.o k with
    | none =>
      rw [ho] at hl
      exact .inr ⟨_, .unl h0 h2 ho, .unl hl⟩
    | some ow =>
      rw [ho] at hl
      cases hqk : st.q k with
      | nil =>
        rw [hqk] at hq
        have hno : ∀ r ∈ st.rows, r.1 ≠ k := fun r hr e => by
          have : r.2 ∈ ((st.rows.filter (fun r => decide (r.1 = k))).map (·.2)) := List.mem_map.mpr ⟨r, List.mem_filter.mpr ⟨hr, by simpa using e⟩, rfl⟩
          rw [← hq] at this
          exact nomatch this
        refine .inl ⟨_, _, _, _, asl, .unl_none h0 h2 ho hqk, .unl_none hl hno, ⟨I.hlen, I.rlen, I.small.que⟩, ⟨⟨I.m.que, fun j a b => ?_, I.m.group⟩, Nat.le_succ_of_le (Nat.le_trans (List.length_eraseIdx_le ..) I.hlen), Nat.le_succ_of_le I.rlen, Nat.le_succ_of_le I.alen, erase_nodup I.nd _, I.dist, I.sub, I.out⟩, fun _ => rfl, fun h => (nomatch h), fun i x h => by simp at h⟩
        show (st.held.eraseIdx (st.held.idxOf k)).contains j = (upd st.o k none j).isSome
        rw [erase_contains I.nd hl]
        by_cases h : j = k
        · subst h; rw [upd_same, if_pos rfl]; rfl
        · rw [upd_other h, if_neg h, I.m.lock j a b]
      | cons r qs =>
        obtain ⟨n, hT⟩ := told_first (g := g) (many := many) I h0 h2 ho hqk
        exact .inl ⟨_, _, _, _, _, hT⟩
  | add h2 h4 =>
    have hc := I.m.group k h2 h4
    have hq := I.m.que k (by omega) h4
    by_cases hz1 : st.c k + many < 0
    · exact .inr ⟨_, .add h2 h4 hz1, .add (by rw [hc]; exact hz1)⟩
    have hz1' : ¬ st.cnt k + many < 0 := by rw [hc]; exact hz1
    have hgrp : ∀ j, 2 ≤ j → j < 4 → upd st.cnt k (st.cnt k + many) j = upd st.c k (st.c k + many) j := fun j a b => by
      by_cases h : j = k
      · subst h; rw [upd_same, upd_same, hc]
      · rw [upd_other h, upd_other h, I.m.group j a b]
    by_cases hz2 : 0 < st.c k + many
    · have hz2' : 0 < st.cnt k + many := by rw [hc]; exact hz2
      exact .inl ⟨_, _, _, _, asl, .add_pos h2 h4 hz1 hz2, .add_pos hz1' hz2', ⟨I.hlen, I.rlen, I.small.que⟩, ⟨⟨I.m.que, I.m.lock, hgrp⟩, Nat.le_succ_of_le I.hlen, Nat.le_succ_of_le I.rlen, Nat.le_succ_of_le I.alen, I.nd, I.dist, I.sub, I.out⟩, fun _ => rfl, fun h => (nomatch h), fun i x h => by simp at h⟩
    · have hz2' : ¬ 0 < st.cnt k + many := by rw [hc]; exact hz2
      have hout : (st.q k).Nodup := by
        rw [hq]; exact I.dist.sublist (List.Sublist.map _ List.filter_sublist)
      have hsub : ∀ x ∈ st.q k, x ∈ asl := fun x hx => by
        rw [hq] at hx
        obtain ⟨r, hr, rfl⟩ := List.mem_map.mp hx
        exact I.sub r (List.mem_filter.mp hr).1
      have hp : PStep { st with c := upd st.c k (st.c k + many), q := upd st.q k [] } g "add" k many true ((st.rows.filter (fun r => decide (r.1 = k))).map (·.2)) { st with c := upd st.c k (st.c k + many), q := upd st.q k [], cnt := upd st.cnt k (st.cnt k + many), rows := st.rows.filter (fun r => decide (r.1 ≠ k)) } := .add_zero (st := { st with c := upd st.c k (st.c k + many), q := upd st.q k [] }) hz1' hz2'
      rw [← hq] at hp
      refine .inl ⟨_, _, _, _, asl, .add_zero h2 h4 hz1 hz2, hp, ⟨I.hlen, I.rlen, fun j => ?_⟩, ⟨⟨fun j a b => ?_, I.m.lock, hgrp⟩, Nat.le_succ_of_le I.hlen, Nat.le_succ_of_le (Nat.le_trans (List.length_filter_le ..) I.rlen), Nat.le_succ_of_le (Nat.le_trans remAll_len I.alen), I.nd, I.dist.sublist (List.Sublist.map _ List.filter_sublist), fun x hx => ?_, fun j h => ?_⟩, fun _ => rfl, fun h => (nomatch h), remAll_ok hout hsub⟩
      · show (upd st.q k [] j).length ≤ _
        by_cases h : j = k
        · subst h; rw [upd_same]; exact Nat.zero_le _
        · rw [upd_other h]; exact Nat.le_succ_of_le (I.qlen j)
      · show upd st.q k [] j = ((st.rows.filter (fun r => decide (r.1 ≠ k))).filter (fun r => decide (r.1 = j))).map (·.2)
        rw [List.filter_filter]
        by_cases h : j = k
        · subst h
          rw [upd_same]
          have : st.rows.filter (fun r => decide (r.1 = j) && decide (r.1 ≠ j)) = [] := List.filter_eq_nil_iff.mpr fun x _ => by simp
          rw [this]; rfl
        · rw [upd_other h, I.m.que j a b]
          congr 1
          refine List.filter_congr fun x _ => ?_
          by_cases e : x.1 = j
          · simp [e, h]
          · simp [e]
      · have hx : x ∈ st.rows.filter (fun r => decide (r.1 ≠ k)) := hx
        obtain ⟨hx1, hx2⟩ := List.mem_filter.mp hx
        refine remAll_mem (I.sub x hx1) fun hm => ?_
        rw [hq] at hm
        obtain ⟨y, hy, e⟩ := List.mem_map.mp hm
        obtain ⟨hy1, hy2⟩ := List.mem_filter.mp hy
        have : y = x := nodup_map_inj I.dist hy1 hx1 e
        subst this
        simp at hx2 hy2
        exact hx2 hy2
      · show upd st.q k [] j = []
        by_cases h' : j = k
        · subst h'; rw [upd_same]
        · rw [upd_other h']; exact I.out j h
  | wait h2 h4 =>
    have hc := I.m.group k h2 h4
    by_cases hz : st.c k = 0
    · exact .inl ⟨_, _, _, _, asl, .wait_zero h2 h4 hz, .wait_zero (by rw [hc]; exact hz), I.small, ⟨I.m, Nat.le_succ_of_le I.hlen, Nat.le_succ_of_le I.rlen, Nat.le_succ_of_le I.alen, I.nd, I.dist, I.sub, I.out⟩, fun _ => rfl, fun h => (nomatch h), fun i x h => by simp at h⟩
    · exact .inl ⟨_, _, _, _, asl ++ [g], .wait_non h2 h4 hz, .wait_non (by rw [show ({ st with q := upd st.q k (st.q k ++ [g]) } : St).cnt = st.cnt from rfl, hc]; exact hz), small_q I, inv_row I hg (by omega) h4, fun h => (nomatch h), fun _ => rfl, fun i x h => by simp at h⟩
end Mine
end
section
open PySem PySem.W PySem.Spec PySem.Calls PyProof.Rows PySem.SeqAt



namespace Mine
theorem codeAmong_mid {pos : Pos} {c : Value} (l more : List Value) (h : TriplesOk l) (hn : codeAmong pos l = none) :
    codeAmong pos (l ++ (rawInt pos.line :: rawInt pos.col :: c :: more)) = some c := by
  fun_induction TriplesOk l with
  | case1 => simp [codeAmong, rawInt]
  | case2 i t j u x rest ih =>
    simp only [List.cons_append, codeAmong] at hn ⊢
    split at hn
    · cases hn
    · rename_i hne
      rw [if_neg hne]
      exact ih h hn
  | case3 => cases h
theorem triples_app {l more : List Value} (h : TriplesOk l) (h2 : TriplesOk more) : TriplesOk (l ++ more) := by
  fun_induction TriplesOk l with
  | case1 => exact h2
  | case2 i t j u x rest ih => exact ih h
  | case3 => cases h
/-- the table of a function's lambdas, as many of them made as have been evaluated; their code objects lie in G -/
def LamOk : List ((Nat × Nat) × Str) → Array Value → Array Value → List (Addr × Obj) → Prop
  | [], base, ps, _ => ps = base
  | x :: r, base, ps, G => ps = base ∨ ∃ c oc vs t, (c, oc) ∈ G ∧ oc.data = .fields vs ∧ vs[1]? = some (.str x.2 t) ∧ LamOk r (base ++ #[rawInt x.1.1, rawInt x.1.2, .ref c]) ps G
theorem LamOk.none : ∀ {X : List ((Nat × Nat) × Str)} {base : Array Value} {G : List (Addr × Obj)}, LamOk X base base G
  | [], _, _ => rfl
  | _ :: _, _, _ => .inl rfl
theorem LamOk.more : ∀ {X : List ((Nat × Nat) × Str)} {base ps : Array Value} {G G' : List (Addr × Obj)}, LamOk X base ps G → (∀ q ∈ G, q ∈ G') → LamOk X base ps G'
  | [], _, _, _, _, x, _ => x
  | _ :: _, _, _, _, _, x, s => x.elim .inl fun ⟨c, oc, vs, t, a, b, d, e⟩ => .inr ⟨c, oc, vs, t, s _ a, b, d, e.more s⟩
theorem LamOk.ext : ∀ {X : List ((Nat × Nat) × Str)} {base ps : Array Value} {G : List (Addr × Obj)}, LamOk X base ps G → ∃ mo : List Value, ps.toList = base.toList ++ mo ∧ TriplesOk mo
  | [], _, _, _, x => ⟨[], by rw [show _ = _ from x, List.append_nil], trivial⟩
  | _ :: _, _, _, _, x => by
    rcases x with rfl | ⟨c, oc, vs, t, a, b, d, e⟩
    · exact ⟨[], (List.append_nil _).symm, trivial⟩
    · obtain ⟨mo, h1, h2⟩ := e.ext
      exact ⟨rawInt _ :: rawInt _ :: .ref c :: mo, by rw [h1, Array.toList_append, List.append_assoc]; rfl, h2⟩
theorem LamOk.two {x y : (Nat × Nat) × Str} {base ps : Array Value} {G1 G2 : List (Addr × Obj)} {c1 c2 : Addr} {o1 o2 : Obj} {v1 v2 : Array Value} {t1 t2 : Tok} (g : ∀ q ∈ G1, q ∈ G2) (i1 : (c1, o1) ∈ G1) (d1 : o1.data = .fields v1) (q1 : v1[1]? = some (.str x.2 t1))
    (i2 : (c2, o2) ∈ G2) (d2 : o2.data = .fields v2) (q2 : v2[1]? = some (.str y.2 t2)) (h : LamOk [] (base ++ #[rawInt x.1.1, rawInt x.1.2, .ref c1] ++ #[rawInt y.1.1, rawInt y.1.2, .ref c2]) ps G2) : LamOk [x, y] base ps G2 :=
  .inr ⟨c1, o1, v1, t1, g _ i1, d1, q1, .inr ⟨c2, o2, v2, t2, i2, d2, q2, h⟩⟩
section
variable {M : Model} {A : Around} {E : Value → Shared → Prop} {s : Shared} {h₀ : Heap} {L a c P : Addr} {m mg mb : Str → Option Value} {cn : Str} {cs : Scope} {ccd : Value} {cl : List (Str × Addr)} {news l1 S tl G : List (Addr × Obj)}
  {p : Program} {loose : List Str} {mean : ExcName → Option Value} {name qual : Str} {params : Arguments} {body : Expr} {scope : Scope} {base ps : Array Value} {pos : Pos} {firstLine : Nat} {clos : List (Str × Addr)} {r : List ((Nat × Nat) × Str)}
/-- a lambda evaluated, for the first time or not -/
theorem lam_step {Q : Value → Shared → Prop} {Z : List (Addr × Obj) → List (Addr × Obj) → Prop} (F : Fr h₀ L s.heap m) (N : News h₀ L s.heap news) (T : Top p loose mean mg mb h₀) (C : CodeHd h₀ c P) (hcd : ccd = .ref c)
    (pu : Pull P (tabObj ps) news l1) (cu : Cut tl l1 S) (hP : ∀ q ∈ S, q.1 ≠ P) (hPt : ∀ q ∈ tl, q.1 ≠ P) (hA : Apart S tl) (hZ : Z G tl) (hZG : ∀ q ∈ G, q ∈ tl) (hl : LamOk (((pos.line, pos.col), qual) :: r) base ps G) (hZS : ∀ C', Z G tl → Apart C' tl → Z (C' ++ G) (C' ++ tl))
    (htb : TriplesOk base.toList) (hnb : codeAmong pos base.toList = none) (hcl : closureFor scope (envX cn cs L a ccd cl) = pure clos)
    (h : ∀ f c' oc vs t ctv ps' G' tl' h' tk, Fr h₀ L h' m → News h₀ L h' ((f, kla_obj name qual params body scope clos ((mg "__name__").getD .none) c' ctv) :: (P, tabObj ps') :: (S ++ tl')) →
      Apart ((P, tabObj ps') :: S) tl' → (∀ q ∈ (P, tabObj ps') :: (S ++ tl'), q.1 < f) → (c', oc) ∈ tl' → Z G' tl' → (∀ q ∈ G, q ∈ G') → (c', oc) ∈ G' → oc.data = .fields vs → vs[1]? = some (.str qual t) → LamOk r (base ++ #[rawInt pos.line, rawInt pos.col, .ref c']) ps' G' → Q (.ref f) { s with heap := h', toks := tk }) :
    wpAny M A (makeFunction name qual params (.expr body) scope (envX cn cs L a ccd cl) [] [] [] pos firstLine) Q E s := by
  have ecu := cu.eq
  subst ecu
  have N2 : News h₀ L s.heap ((P, tabObj ps) :: (S ++ tl)) := news_sub N pu.sub
  rcases hl with rfl | ⟨c', oc, vs, t, hin, h1, h2, hr⟩
  · refine kla_nest (g := fun o => (P, o) :: (S ++ tl)) F N2 T C hcd (UpdF.head fun q hq => (List.mem_append.mp hq).elim (hP q) (hPt q)) htb hnb hcl fun f c' oc vs t ctv h' tk F' N' d1 d2 lt1 lt2 => ?_
    have hc : ∀ q ∈ S ++ tl, q.1 ≠ c' := fun q hq => Nat.ne_of_lt (lt1 q (.tail _ hq))
    have a1 : Apart [(c', oc)] tl := fun p hp q hq => by
      rw [List.mem_singleton.mp hp]; exact hc q (List.mem_append_right _ hq)
    refine h f c' oc vs t ctv _ ((c', oc) :: G) ((c', oc) :: tl) h' tk F' (news_sub N' fun q hq => ?_) ?_ ?_ (.head _) (hZS [(c', oc)] hZ a1) (fun q hq => .tail _ hq) (.head _) d1 d2 .none
    · rcases List.mem_cons.mp hq with rfl | hq
      · exact .head _
      rcases List.mem_cons.mp hq with rfl | hq
      · exact .tail _ (.tail _ (.head _))
      rcases List.mem_append.mp hq with hq | hq
      · exact .tail _ (.tail _ (.tail _ (List.mem_append_left _ hq)))
      rcases List.mem_cons.mp hq with rfl | hq
      · exact .tail _ (.head _)
      · exact .tail _ (.tail _ (.tail _ (List.mem_append_right _ hq)))
    · intro x hx q hq
      rcases List.mem_cons.mp hq with rfl | hq
      · rcases List.mem_cons.mp hx with rfl | hx
        · exact Nat.ne_of_gt (show P < c' from lt1 (P, tabObj _) (.head _))
        · exact Nat.ne_of_gt (lt1 x (.tail _ (List.mem_append_left _ hx)))
      · rcases List.mem_cons.mp hx with rfl | hx
        · exact hPt q hq
        · exact hA x hx q hq
    · intro q hq
      rcases List.mem_cons.mp hq with rfl | hq
      · exact Nat.lt_trans (show P < c' from lt1 (P, tabObj _) (.head _)) lt2
      rcases List.mem_append.mp hq with hq | hq
      · exact Nat.lt_trans (lt1 q (.tail _ (List.mem_append_left _ hq))) lt2
      rcases List.mem_cons.mp hq with rfl | hq
      · exact lt2
      · exact Nat.lt_trans (lt1 q (.tail _ (List.mem_append_right _ hq))) lt2
  · obtain ⟨mo, e1, e2⟩ := hr.ext
    have e3 : ps.toList = base.toList ++ (rawInt pos.line :: rawInt pos.col :: .ref c' :: mo) := by
      rw [e1, Array.toList_append, List.append_assoc]; rfl
    refine kla_hit F N2 T C hcd (.head _) (by rw [e3]; exact triples_app htb e2) (by rw [e3]; exact codeAmong_mid _ _ htb hnb) hcl fun f ctv h' tk F' N' lt1 => ?_
    refine h f c' oc vs t ctv ps G tl h' tk F' N' (fun x hx q hq => ?_) lt1 (hZG _ hin) hZ (fun q hq => hq) hin h1 h2 hr
    rcases List.mem_cons.mp hx with rfl | hx
    · exact hPt q hq
    · exact hA x hx q hq
end
end Mine
end
section
open PySem PySem.W PySem.Calls PyProof.Rows PySem.Spec PySem.SeqAt


namespace Mine
abbrev lamX : List ((Nat × Nat) × Str) := [((166, 21), lamQ), ((167, 22), lamQ)]
section
variable {prog : Program} {w : World} {pg gl sd al : Addr} {z z' : Nat} {st : St} {tl C G D : List (Addr × Obj)}
theorem ScnF.beside (x : ScnF prog w pg gl G z st tl) (a : Apart C tl) : ScnF prog w pg gl (C ++ G) z st (C ++ tl) := by
  obtain ⟨tl0, rfl, hS, hA⟩ := x
  exact ⟨tl0, (List.append_assoc ..).symm, hS, fun p hp q hq => (List.mem_append.mp hp).elim (fun h => a p h q (List.mem_append_right _ hq)) fun h => hA p h q hq⟩
theorem ScnL.beside {fr : List (Addr × Obj)} (x : ScnF prog w pg gl (G ++ fr) z st tl ∧ Apart G fr) (a : Apart C tl) : ScnF prog w pg gl ((C ++ G) ++ fr) z st (C ++ tl) ∧ Apart (C ++ G) fr := by
  have h := x.1.beside a
  rw [← List.append_assoc] at h
  refine ⟨h, fun p hp q hq => (List.mem_append.mp hp).elim (fun h => a p h q ?_) fun h => x.2 p h q hq⟩
  obtain ⟨⟨tl0, rfl, _⟩, _⟩ := x
  exact List.mem_append_left _ (List.mem_append_right _ hq)
theorem ScnF.inG {fr : List (Addr × Obj)} (x : ScnF prog w pg gl (G ++ fr) z st tl) : ∀ q ∈ G, q ∈ tl := by
  obtain ⟨tl0, rfl, _⟩ := x
  exact fun q hq => List.mem_append_left _ (List.mem_append_left _ hq)
/-- the scene with the table of the deed's lambdas -/
def DSt (prog : Program) (w : World) (pg gl sd al : Addr) (z : Nat) (st : St) (D : List (Addr × Obj)) : Prop :=
  ∃ ps C tl, D = (277, tabObj ps) :: (C ++ tl) ∧ Scn prog w pg gl z st tl ∧ Apart C tl ∧ LamOk lamX #[] ps C ∧ [277, sd, al].Nodup ∧ ∀ a ∈ [277, sd, al], ∀ q ∈ C ++ tl, q.1 ≠ a
theorem DSt.le (x : DSt prog w pg gl sd al z st D) (h : z ≤ z') : DSt prog w pg gl sd al z' st D :=
  let ⟨ps, C, tl, e, ⟨p, ng, gs, T, y⟩, r⟩ := x; ⟨ps, C, tl, e, ⟨p, ng, gs, T, { y with oc := y.oc.le h }⟩, r⟩
end
theorem app_ne {fr tl : List (Addr × Obj)} {a : Addr} (h1 : ∀ q ∈ fr, q.1 ≠ a) (h2 : ∀ q ∈ tl, q.1 ≠ a) : ∀ q ∈ fr ++ tl, q.1 ≠ a := fun q hq => (List.mem_append.mp hq).elim (h1 q) (h2 q)
theorem apart_ne {fr D : List (Addr × Obj)} {a : Addr} {o : Obj} (h : Apart fr D) (m : (a, o) ∈ D) : ∀ q ∈ fr, q.1 ≠ a := fun q hq e => h q hq _ m e.symm
theorem list_nd {a b c : Addr} : [a, b, c].Nodup ↔ a ≠ b ∧ a ≠ c ∧ b ≠ c := by
  simp only [List.nodup_cons, List.mem_cons, List.not_mem_nil, or_false, not_or, List.nodup_nil, and_true, not_false_eq_true]
  exact ⟨fun ⟨⟨h1, h2⟩, h3⟩ => ⟨h1, h2, h3⟩, fun ⟨h1, h2, h3⟩ => ⟨⟨h1, h2⟩, h3⟩⟩
section
variable {prog : Program} {w : World} {pg gl sd al : Addr} {z : Nat} {st : St} {tl K fr : List (Addr × Obj)} {ps : Array Value} {osd oal : Obj} {h₀ h : Heap} {L : Addr}
theorem dst_sep {a : Addr} (h : ∀ q ∈ fr, q.1 ≠ a) (x : ∀ q ∈ K ++ tl, q.1 ≠ a) : ∀ q ∈ (K ++ fr) ++ tl, q.1 ≠ a := fun q hq => by
  rcases List.mem_append.mp hq with hq | hq
  · rcases List.mem_append.mp hq with hq | hq
    · exact x q (List.mem_append_left _ hq)
    · exact h q hq
  · exact x q (List.mem_append_right _ hq)
theorem dst_news (N : News h₀ L h ((sd, osd) :: (al, oal) :: (fr ++ (277, tabObj ps) :: (K ++ tl)))) : News h₀ L h ((277, tabObj ps) :: (sd, osd) :: (al, oal) :: ((K ++ fr) ++ tl)) := news_sub N fun q hq => by
  rcases List.mem_cons.mp hq with rfl | hq
  · exact .tail _ (.tail _ (List.mem_append_right _ (.head _)))
  rcases List.mem_cons.mp hq with rfl | hq
  · exact .head _
  rcases List.mem_cons.mp hq with rfl | hq
  · exact .tail _ (.head _)
  rcases List.mem_append.mp hq with hq | hq
  · rcases List.mem_append.mp hq with hq | hq
    · exact .tail _ (.tail _ (List.mem_append_right _ (.tail _ (List.mem_append_left _ hq))))
    · exact .tail _ (.tail _ (List.mem_append_left _ hq))
  · exact .tail _ (.tail _ (List.mem_append_right _ (.tail _ (List.mem_append_right _ hq))))
theorem dst_back (N : News h₀ L h ((277, tabObj ps) :: (sd, osd) :: (al, oal) :: ((K ++ fr) ++ tl))) (hS : Scn prog w pg gl z st tl) (A : Apart (K ++ fr) tl) (hK : Apart K fr) (hl : LamOk lamX #[] ps K) (nd : [277, sd, al].Nodup)
    (b1 : ∀ q ∈ (K ++ fr) ++ tl, q.1 ≠ 277) (b2 : ∀ q ∈ (K ++ fr) ++ tl, q.1 ≠ sd) (b3 : ∀ q ∈ (K ++ fr) ++ tl, q.1 ≠ al) : News h₀ L h ((sd, osd) :: (al, oal) :: (fr ++ (277, tabObj ps) :: (K ++ tl))) ∧ DSt prog w pg gl sd al z st ((277, tabObj ps) :: (K ++ tl)) := by
  have up : ∀ q ∈ K ++ tl, q ∈ (K ++ fr) ++ tl := fun q hq => (List.mem_append.mp hq).elim (fun h => List.mem_append_left _ (List.mem_append_left _ h)) fun h => List.mem_append_right _ h
  refine ⟨news_sub N fun q hq => ?_, ps, K, tl, rfl, hS, fun p hp => A p (List.mem_append_left _ hp), hl, nd, List.forall_mem_cons.mpr ⟨fun q hq => b1 q (up q hq), List.forall_mem_cons.mpr ⟨fun q hq => b2 q (up q hq), List.forall_mem_cons.mpr ⟨fun q hq => b3 q (up q hq), List.forall_mem_nil _⟩⟩⟩⟩
  rcases List.mem_cons.mp hq with rfl | hq
  · exact .tail _ (.head _)
  rcases List.mem_cons.mp hq with rfl | hq
  · exact .tail _ (.tail _ (.head _))
  rcases List.mem_append.mp hq with hq | hq
  · exact .tail _ (.tail _ (.tail _ (List.mem_append_left _ (List.mem_append_right _ hq))))
  rcases List.mem_cons.mp hq with rfl | hq
  · exact .head _
  · exact .tail _ (.tail _ (.tail _ (up q hq)))
theorem dst_apart {o : Obj} (A : Apart (K ++ fr) tl) (hK : Apart K fr) (b1 : ∀ q ∈ (K ++ fr) ++ tl, q.1 ≠ 277) : Apart fr ((277, o) :: (K ++ tl)) := fun p hp q hq => by
  rcases List.mem_cons.mp hq with rfl | hq
  · exact Ne.symm (b1 p (List.mem_append_left _ (List.mem_append_right _ hp)))
  rcases List.mem_append.mp hq with hq | hq
  · exact Ne.symm (hK q hq p hp)
  · exact A p (List.mem_append_right _ hp) q hq
end
theorem Inv.le {z : Nat} {st : St} {asl : List Int} (I : Inv z st asl) : Inv (z + 1) st asl :=
  ⟨I.m, Nat.le_succ_of_le I.hlen, Nat.le_succ_of_le I.rlen, Nat.le_succ_of_le I.alen, I.nd, I.dist, I.sub, I.out⟩
end Mine
end
section
open PySem PySem.W PySem.Calls PyProof.Rows PySem.Spec PySem.SeqAt


namespace Mine
theorem max_nn (x : Int) : 0 ≤ (if -1 - x > x then -1 - x else x) := by split <;> omega
theorem ite_nn (c : Prop) [Decidable c] : (0 : Int) ≤ if c then 1 else 0 := by split <;> decide
theorem prod_nn {x y : Int} (h : 0 ≤ x) (h' : 0 ≤ y) : 0 ≤ x * y := Int.mul_nonneg h h'
theorem fdiv_nn {x y : Int} (h : 0 ≤ x) (h' : 0 < y) : 0 ≤ x.fdiv y := by
  rw [Int.fdiv_eq_ediv_of_nonneg _ (Int.le_of_lt h')]; exact Int.ediv_nonneg h (Int.le_of_lt h')
theorem fm_lo (a : Int) {n : Int} (h : 0 < n) : 0 ≤ Int.fmod a n := by
  rw [Int.fmod_eq_emod_of_nonneg a (by omega)]; exact Int.emod_nonneg a (by omega)
theorem fm_hi (a : Int) {n : Int} (h : 0 < n) : Int.fmod a n < n := by
  rw [Int.fmod_eq_emod_of_nonneg a (by omega)]; exact Int.emod_lt_of_pos a h
section
variable {prog : Program} {w : World} {A : Around} {E : Value → Shared → Prop} {s : Shared} {h₀ : Heap} {L l : Addr} {news : List (Addr × Obj)} {vs : List Value} {n : Nat}
theorem len_led {Q : Value → Shared → Prop} (N : News h₀ L s.heap news) (hm : (l, listOf vs.toArray n) ∈ news) (hz : vs.length < 1000)
    (h : Q (.int (vs.length : Nat) (s.toks + 1)) { s with toks := s.toks + 1 + 1 }) : wpAny (model prog w) A (call (.builtin "len") [.ref l]) Q E s := by
  have hl : s.heap.IsList l vs.toArray := ⟨_, (N _ hm).1, rfl, _, rfl⟩
  have e : vs.toArray.size = vs.length := List.size_toArray
  refine Calls.call_len_list hl (by omega) ?_
  rw [e]
  exact h
end
theorem at_get {vs : List Value} {k : Int} (h : k < ((vs.length : Nat) : Int)) (h0 : 0 ≤ k) : ∃ v, vs[k.toNat]? = some v := ⟨vs[k.toNat]'(by omega), by simp⟩
/-- the fresh scene -/
def st0 : St := { held := [], cnt := fun _ => 0, rows := [], q := fun _ => [], o := fun _ => none, c := fun _ => 0 }
theorem tabO_new {prog : Program} {w : World} {o : Obj} (h : Obj.IsDictOf (PySem.strKind prog w) o []) : TabO prog w enc1I [] o 0 (fun _ => 0) := by
  obtain ⟨es, ep, a, b, c, d, e⟩ := h
  have he : es.toList = [] := by
    cases hq : es.toList with
    | nil => rfl
    | cons x r => rw [hq] at d; cases d
  exact ⟨es, ep, [], a, b, he, by simp, Nat.le_refl _, fun x hx => (nomatch hx), fun k => .inr ⟨rfl, rfl⟩⟩
theorem Apart.nilR {S : List (Addr × Obj)} : Apart S [] := fun _ _ _ h => nomatch h
theorem Apart.consR {T S : List (Addr × Obj)} {a : Addr} {o : Obj} (h : ∀ q ∈ S, q.1 ≠ a) (x : Apart S T) : Apart S ((a, o) :: T) := fun p hp q hq => by
  rcases List.mem_cons.mp hq with rfl | hq
  · exact fun e => h p hp e.symm
  · exact x p hp q hq
theorem scn_new {prog : Program} {w : World} {pg pd hl dc wl gl x0 d0 w0 x1 d1 w1 x2 d2 w2 x3 d3 w3 : Addr} {oc : Obj} {t4 t5 t6 u0 v0 u1 v1 u2 v2 u3 v3 y2 y3 : Tok} (hs : Obj.IsDictOf (PySem.strKind prog w) oc []) (lo : (dc == sysModules) = false)
    (nd : [pg, pd, hl, dc, wl, gl, x0, d0, w0, x1, d1, w1, x2, d2, w2, x3, d3, w3].Nodup) : Scn prog w pg gl 0 st0 [(pg, instObj 124 pd), (pd, pgD w.params t4 t5 t6 hl dc wl), (hl, listOf #[] 0), (dc, oc), (wl, listOf #[] 0), (gl, listOf #[.ref x0, .ref x1, .ref x2, .ref x3] 0),
      (x0, instObj 168 d0), (d0, dictOf [tyKey w.params "owner" u0 .none, tyKey w.params "waiting" v0 (.ref w0)] 2), (w0, listOf #[] 0),
      (x1, instObj 168 d1), (d1, dictOf [tyKey w.params "owner" u1 .none, tyKey w.params "waiting" v1 (.ref w1)] 2), (w1, listOf #[] 0),
      (x2, instObj 210 d2), (d2, dictOf [tyKey w.params "count" u2 (.int 0 y2), tyKey w.params "waiting" v2 (.ref w2)] 2), (w2, listOf #[] 0),
      (x3, instObj 210 d3), (d3, dictOf [tyKey w.params "count" u3 (.int 0 y3), tyKey w.params "waiting" v3 (.ref w3)] 2), (w3, listOf #[] 0)] := by
  refine ⟨⟨pg, pd, hl, dc, wl, t4, t5, t6, [], [], 0, 0, oc⟩, 0, [⟨x0, d0, w0, 168, "owner", .none, u0, v0, 0, []⟩, ⟨x1, d1, w1, 168, "owner", .none, u1, v1, 0, []⟩, ⟨x2, d2, w2, 210, "count", .int 0 y2, u2, v2, 0, []⟩, ⟨x3, d3, w3, 210, "count", .int 0 y3, u3, v3, 0, []⟩], [], ⟨.refl _, rfl, nd, fun _ h => (nomatch h), .nil, .nil, tabO_new hs, lo, rfl, ?_⟩⟩
  intro i g hg
  match i, hg with
  | 0, hg => cases hg; exact ⟨fun _ => ⟨rfl, rfl, 0, rfl⟩, fun h => absurd (by decide) h, .nil⟩
  | 1, hg => cases hg; exact ⟨fun _ => ⟨rfl, rfl, 0, rfl⟩, fun h => absurd (by decide) h, .nil⟩
  | 2, hg => cases hg; exact ⟨fun h => absurd h (by decide), fun _ => ⟨rfl, rfl, y2, rfl⟩, .nil⟩
  | 3, hg => cases hg; exact ⟨fun h => absurd h (by decide), fun _ => ⟨rfl, rfl, y3, rfl⟩, .nil⟩
  | i + 4, hg => simp at hg
/-- the table of the deed's lambdas, filled -/
def LTab (K : List (Addr × Obj)) : Prop := ∃ ps C, K = (277, tabObj ps) :: C ∧ LamOk lamX #[] ps C ∧ ∀ q ∈ C, q.1 ≠ 277
end Mine
end
section
open PySem PySem.W PySem.Spec PySem.Calls PyProof.Rows PySem.SeqAt


namespace Mine
section
variable {prog : Program} {w : World} {A : Around} {E : Value → Shared → Prop} {s : Shared} {env : Env} {h₀ : Heap} {L : Addr} {elts : List Expr} {x1 : Nat} {pos : Pos} {body : List Stmt} {Q : Flow → Shared → Prop}
theorem go_listiter {I l : Addr} {v : Value} {i : Nat} {Q : Unit → Shared → Prop} (hit : s.heap.IsListIter I l i) (hQ : Q () s) :
    wpAny (model prog w) A (letOwnedTupleGo (.Tuple elts x1 pos) (.ref I) v) Q E s := by
  cases v with
  | ref T => exact wpAny_letOwnedTupleGo_listiter hit hQ
  | _ => exact wpAny_pure hQ
/-- a loop over a list of the ledger whose items the target unpacks -/
theorem list_turnsT {l : Addr} {vs : List Value} {n : Nat} {m : Str → Option Value} {news : List (Addr × Obj)} (J : Nat → (Str → Option Value) → List (Addr × Obj) → Prop)
    (hh : A.handled = none) (F : Fr h₀ L s.heap m) (N : News h₀ L s.heap news) (hm : (l, listOf vs.toArray n) ∈ news) (hL : env.locals = L) (hj : J 0 m news)
    (hJl : ∀ i m nx, J i m nx → (l, listOf vs.toArray n) ∈ nx)
    (turn : ∀ i v I oI m₁ nx h tk, vs[i]? = some v → J i m₁ nx → Fr h₀ L h m₁ → News h₀ L h ((I, oI) :: nx) → (∀ p ∈ nx, p.1 ≠ I) →
      wpAny (model prog w) A (assign (.Tuple elts x1 pos) env v) (fun _ s₃ => wpAny (model prog w) A (execs body env) (TurnPost h₀ L I oI (J (i + 1)) { s with heap := h, toks := tk } Q) E s₃) E { s with heap := h, toks := tk })
    (done : ∀ m₁ nx h tk, J vs.length m₁ nx → Fr h₀ L h m₁ → News h₀ L h nx → Q .next { s with heap := h, toks := tk }) :
    wpAny (model prog w) A (pyIter (.ref l)) (fun it s₂ => TurnsAt prog w A h₀ env (.Tuple elts x1 pos) body Q E it s₂) E s := by
  subst hL
  have hls : s.heap.IsList l vs.toArray := ⟨_, (N _ hm).1, rfl, _, rfl⟩
  have hne : l ≠ s.heap.objs.size := Nat.ne_of_lt (Heap.lt_size (N _ hm).1)
  refine wpAny_pyIter_list hls ?_
  have W := KTurns.ofWalks (target := .Tuple elts x1 pos) (Walks.list (prog := prog) (w := w) hh s.heap.objs.size l hne vs.toArray) (fun i v s' Q' E' st h => go_listiter st.1 h)
  have hlen : vs.toArray.size = vs.length := List.size_toArray
  rw [hlen] at W
  have hoff₀ : ∀ p ∈ news, p.1 ∉ [s.heap.objs.size] := fun p hp hI => absurd (Heap.lt_size (N p hp).1) ((List.mem_singleton.mp hI) ▸ Nat.lt_irrefl _)
  refine ⟨_, _, _, vs.length, _, _, _, m, news, J, rfl, W, ?_, ?_, hoff₀, ⟨⟨_, Heap.get?_push_size _ rfl, rfl, rfl⟩, hls.at fun o e => Heap.get?_push_of_some _ e⟩, F.push _, (fun p hp => ⟨Heap.get?_push_of_some _ (N p hp).1, (N p hp).2⟩), hj, ?_, ?_⟩
  · intro hI
    rcases List.mem_cons.mp hI with e | hI
    · exact absurd F.ns.lt (e ▸ Nat.lt_irrefl _)
    · exact (N _ hm).2.1 (List.mem_singleton.mp hI).symm
  · intro b hb
    rw [List.mem_singleton.mp hb]
    exact next_is_new F
  · rintro i v m₁ news₁ hh' tk' own hin hP hJ hoff hown hown2 hmem hst F₁ N₁
    have hx : vs[i]? = some v := by simpa using hP
    obtain ⟨oI, hoI, _⟩ := hst.1
    have hfr : h₀.get? s.heap.objs.size = none := next_is_new F
    have hIin : (s.heap.objs.size, oI) ∈ own := hmem _ (.head _) hfr _ hoI
    have hlin := hJl _ _ _ hJ
    have N₂ : News h₀ env.locals hh' ((s.heap.objs.size, oI) :: news₁) := fun p hp => by
      rcases List.mem_cons.mp hp with rfl | hp
      · exact N₁ _ (List.mem_append_left _ hIin)
      · exact N₁ _ (List.mem_append_right _ hp)
    have off₁ : ∀ p ∈ news₁, p.1 ≠ s.heap.objs.size := fun p hp e => hoff p hp (List.mem_singleton.mpr e)
    have hlo : hh'.get? l = some (listOf vs.toArray n) := (N₂ _ (.tail _ hlin)).1
    have ownEq : ∀ p ∈ own, p = (s.heap.objs.size, oI) ∨ p = (l, listOf vs.toArray n) := fun p hp => by
      have e2 := hown2 p hp
      obtain ⟨p1, p2⟩ := p
      rcases List.mem_cons.mp (hown _ hp) with e1 | e1
      · simp only at e1 e2
        subst e1
        have := hoI.symm.trans e2
        left; rw [Option.some.inj this]
      · have e1 := List.mem_singleton.mp e1
        simp only at e1 e2
        subst e1
        have := hlo.symm.trans e2
        right; rw [Option.some.inj this]
    refine wpAny_mono (turn i v _ oI m₁ news₁ hh' tk' hx hJ F₁ N₂ off₁) (fun _ s₃ h₃ => wpAny_mono h₃ (fun f s₂ p => ?_) fun _ _ e => e) fun _ _ e => e
    have fin : (∃ h' tk m' nx, s₂ = { s with heap := h', toks := tk } ∧ Fr h₀ env.locals h' m' ∧ News h₀ env.locals h' ((s.heap.objs.size, oI) :: nx) ∧ (∀ p ∈ nx, p.1 ≠ s.heap.objs.size) ∧ J (i + 1) m' nx) →
        LoopStepU h₀ env.locals [s.heap.objs.size] own (J (i + 1)) { s with heap := hh', toks := tk' } .next s₂ := by
      rintro ⟨h', tk, m', nx, rfl, F', N', o', hJ'⟩
      refine ⟨rfl, h', tk, m', nx, rfl, F', fun p hp => ?_, fun p hp e => o' p hp (List.mem_singleton.mp e), hJ'⟩
      rcases List.mem_append.mp hp with hp | hp
      · rcases ownEq p hp with e | e <;> rw [e]
        · exact N' _ (.head _)
        · exact N' _ (.tail _ (hJl _ _ _ hJ'))
      · exact N' _ (.tail _ hp)
    cases f with
    | ret v => exact .ret p
    | brk => exact .brk p
    | next => exact .next (fin p)
    | cont => exact .cont (fin p)
  · rintro h' tk m' news' F' N' _ hJ
    exact done m' news' h' tk hJ F' N'
end
/-- the first five deeds: the goroutine and the word -/
def fstG : Nat → Int
  | 0 => 0 | 1 => 1 | 2 => 2 | 3 => 0 | _ => 3
def fstW : Nat → Str
  | 3 => "unlock" | _ => "lock"
/-- what stands ahead of the i-th of them -/
def Phase : Nat → St → List Int → Prop
  | 0, st, asl => st.o 0 = none ∧ st.q 0 = [] ∧ asl = []
  | 1, st, asl => st.o 0 = some 0 ∧ st.q 0 = [] ∧ asl = []
  | 2, st, asl => st.o 0 = some 0 ∧ st.q 0 = [1] ∧ asl = [1]
  | 3, st, asl => st.o 0 = some 0 ∧ st.q 0 = [1, 2] ∧ asl = [1, 2]
  | 4, st, asl => st.o 0 = some 1 ∧ st.q 0 = [2] ∧ asl = [2]
  | _, st, asl => st.o 0 = some 1 ∧ st.q 0 = [2, 3] ∧ asl = [2, 3]
section
variable {z : Nat} {st : St} {asl : List Int} {g : Int}
theorem told_lock_free (I : Inv z st asl) (hg : g ∉ asl) (ho : st.o 0 = none) : ∃ st1 st2, Told z st asl g "lock" 0 0 true [] st1 st2 asl ∧ st2.o 0 = some g ∧ st2.q 0 = st.q 0 :=
  ⟨_, _, told_free I (by decide) (by decide) ho, upd_same (f := st.o) (k := 0) (v := some g), rfl⟩
theorem told_lock_held {o : Int} (I : Inv z st asl) (hg : g ∉ asl) (hoo : st.o 0 = some o) : ∃ st1 st2, Told z st asl g "lock" 0 0 false [] st1 st2 (asl ++ [g]) ∧ st2.o 0 = some o ∧ st2.q 0 = st.q 0 ++ [g] :=
  ⟨_, _, told_held I hg (by decide) (by decide) hoo, hoo, upd_same (f := st.q) (k := 0) (v := st.q 0 ++ [g])⟩
theorem told_unl_first {o r : Int} {qs : List Int} (I : Inv z st asl) (hg : g ∉ asl) (ho : st.o 0 = some o) (hr : st.q 0 = r :: qs) : ∃ st1 st2, Told z st asl g "unlock" 0 0 true [r] st1 st2 asl ∧ st2.o 0 = some r ∧ st2.q 0 = qs := by
  obtain ⟨n, hT⟩ := told_first (g := g) (many := 0) I (by decide) (by decide) ho hr
  exact ⟨_, _, hT, upd_same (f := st.o) (k := 0) (v := some r), upd_same (f := st.q) (k := 0) (v := qs)⟩
end
theorem phase_step {z i : Nat} {st : St} {asl : List Int} (hi : i < 5) (I : Inv z st asl) (P : Phase i st asl) : ∃ b out st1 st2 asl1, Told z st asl (fstG i) (fstW i) 0 0 b out st1 st2 asl1 ∧ Phase (i + 1) st2 (remAll asl1 out) := by
  match i, hi with
  | 0, _ =>
    obtain ⟨h1, h2, rfl⟩ := P
    obtain ⟨st1, st2, hT, a, b⟩ := told_lock_free (g := 0) I (by decide) h1
    exact ⟨_, _, _, _, _, hT, a, b.trans h2, rfl⟩
  | 1, _ =>
    obtain ⟨h1, h2, rfl⟩ := P
    obtain ⟨st1, st2, hT, a, b⟩ := told_lock_held (g := 1) I (by decide) h1
    exact ⟨_, _, _, _, _, hT, a, by rw [b, h2]; rfl, rfl⟩
  | 2, _ =>
    obtain ⟨h1, h2, rfl⟩ := P
    obtain ⟨st1, st2, hT, a, b⟩ := told_lock_held (g := 2) I (by decide) h1
    exact ⟨_, _, _, _, _, hT, a, by rw [b, h2]; rfl, rfl⟩
  | 3, _ =>
    obtain ⟨h1, h2, rfl⟩ := P
    obtain ⟨st1, st2, hT, a, b⟩ := told_unl_first (g := 0) I (by decide) h1 h2
    exact ⟨_, _, _, _, _, hT, a, b, rfl⟩
  | 4, _ =>
    obtain ⟨h1, h2, rfl⟩ := P
    obtain ⟨st1, st2, hT, a, b⟩ := told_lock_held (g := 3) I (by decide) h1
    exact ⟨_, _, _, _, _, hT, a, by rw [b, h2]; rfl, rfl⟩
  | i + 5, h => exact absurd h (by omega)
theorem inv0 : Inv 0 st0 [] := ⟨⟨fun _ _ _ => rfl, fun _ _ _ => rfl, fun _ _ _ => rfl⟩, Nat.le_refl _, Nat.le_refl _, Nat.le_refl _, .nil, .nil, fun _ h => (nomatch h), fun _ _ => rfl⟩
end Mine
end
section
open PySem PySem.W PySem.Spec PySem.Calls PyProof.Rows PySem.SeqAt


namespace Mine
theorem two_names {x y : Str} {m : Str → Option Value} {u1 u2 a b : Option Value} (h : x ≠ y) : (fun z => if z = y then a else (fun z => if z = x then b else (fun z => if z = x then u1 else if z = y then u2 else m z) z) z) = fun z => if z = x then b else if z = y then a else m z := by
  funext z
  by_cases h1 : z = x
  · subst h1; simp [h]
  · by_cases h2 : z = y
    · subst h2; simp [h1]
    · simp [h1, h2]
theorem two_start {x y : Str} {m : Str → Option Value} : m = fun z => if z = x then m x else if z = y then m y else m z := by
  funext z
  by_cases h1 : z = x
  · subst h1; rw [if_pos rfl]
  · rw [if_neg h1]
    by_cases h2 : z = y
    · subst h2; rw [if_pos rfl]
    · rw [if_neg h2]
/-- between the first deeds -/
def JT (prog : Program) (w : World) (fr0 : List (Addr × Obj)) (sd al pg gl : Addr) (osd : Obj) (m : Str → Option Value) (i : Nat) (m₁ : Str → Option Value) (nx : List (Addr × Obj)) : Prop :=
  ∃ u1 u2 as na st asl D, nx = (sd, osd) :: (al, listOf as.toArray na) :: (fr0 ++ D) ∧ (m₁ = fun (z : Str) => if z = "goroutine" then u1 else if z = "word" then u2 else m z) ∧ DSt prog w pg gl sd al i st D ∧ Apart fr0 D ∧
    LReads [] as (asl.map .int) ∧ Inv i st asl ∧ Phase i st asl
theorem nGW : (Str.ofString "goroutine" : Str) ≠ "word" := by decide
section
variable {prog : Program} {w : World} {sd al pg gl : Addr} {osd : Obj} {m : Str → Option Value} {fr0 D D' l : List (Addr × Obj)} {h₀ h' : Heap} {L I : Addr} {oI : Obj}
theorem JT.start {na : Nat} (hD : DSt prog w pg gl sd al 0 st0 D) (hA : Apart fr0 D) : JT prog w fr0 sd al pg gl osd m 0 m ((sd, osd) :: (al, listOf ([] : List Value).toArray na) :: (fr0 ++ D)) :=
  ⟨m "goroutine", m "word", [], na, st0, [], D, rfl, two_start, hD, hA, .nil, inv0, rfl, rfl, rfl⟩
theorem turn_told {i tk : Nat} {u1 u2 : Option Value} {v1 v2 : Value} {as : List Value} {na : Nat} {st : St} {asl : List Int} {s₁ : Shared} {Q : Flow → Shared → Prop} {o : Obj}
    (F : Fr h₀ L h' (fun (z : Str) => if z = "word" then some v2 else (fun (z : Str) => if z = "goroutine" then some v1 else (fun (z : Str) => if z = "goroutine" then u1 else if z = "word" then u2 else m z) z) z)) (N : News h₀ L h' l) (s : ∀ q ∈ (I, oI) :: (sd, osd) :: (al, listOf as.toArray na) :: (fr0 ++ D'), q ∈ l)
    (off : ∀ p ∈ (sd, osd) :: (al, o) :: (fr0 ++ D), p.1 ≠ I) (hD : DSt prog w pg gl sd al (i + 1) st D') (hA : Apart ((I, oI) :: fr0) D') (R : LReads [] as (asl.map .int)) (hI : Inv (i + 1) st asl) (P : Phase (i + 1) st asl) :
    TurnPost h₀ L I oI (JT prog w fr0 sd al pg gl osd m (i + 1)) s₁ Q .next { s₁ with heap := h', toks := tk } := by
  refine ⟨_, _, _, _, rfl, F, news_sub N s, fun p hp => ?_, ⟨some v1, some v2, as, na, st, asl, D', rfl, two_names nGW, hD, fun p hp => hA p (.tail _ hp), R, hI, P⟩⟩
  rcases List.mem_cons.mp hp with rfl | hp
  · exact off _ (.head _)
  rcases List.mem_cons.mp hp with rfl | hp
  · exact off (al, o) (.tail _ (.head _))
  rcases List.mem_append.mp hp with hp | hp
  · exact off _ (.tail _ (.tail _ (List.mem_append_left _ hp)))
  · exact hA _ (.head _) _ hp
end
/-- the items of the first deeds' list, with their tuples -/
theorem fst_item {a0 a1 a2 a3 a4 : Addr} {b0 b1 b2 b3 b4 c0 c1 c2 c3 c4 : Tok} {fr0 : List (Addr × Obj)} (hf : ∀ q ∈ [(a0, ({ cls := .type "tuple", data := .seq #[.int 0 b0, .str "lock" c0] } : Obj)), (a1, { cls := .type "tuple", data := .seq #[.int 1 b1, .str "lock" c1] }), (a2, { cls := .type "tuple", data := .seq #[.int 2 b2, .str "lock" c2] }), (a3, { cls := .type "tuple", data := .seq #[.int 0 b3, .str "unlock" c3] }), (a4, { cls := .type "tuple", data := .seq #[.int 3 b4, .str "lock" c4] })], q ∈ fr0)
    {i : Nat} {v : Value} (h : [Value.ref a0, .ref a1, .ref a2, .ref a3, .ref a4][i]? = some v) : i < 5 ∧ ∃ a b c, v = .ref a ∧ (a, ({ cls := .type "tuple", data := .seq #[.int (fstG i) b, .str (fstW i) c] } : Obj)) ∈ fr0 := by
  match i, h with
  | 0, h => cases h; exact ⟨by decide, _, _, _, rfl, hf _ (.head _)⟩
  | 1, h => cases h; exact ⟨by decide, _, _, _, rfl, hf _ (.tail _ (.head _))⟩
  | 2, h => cases h; exact ⟨by decide, _, _, _, rfl, hf _ (.tail _ (.tail _ (.head _)))⟩
  | 3, h => cases h; exact ⟨by decide, _, _, _, rfl, hf _ (.tail _ (.tail _ (.tail _ (.head _))))⟩
  | 4, h => cases h; exact ⟨by decide, _, _, _, rfl, hf _ (.tail _ (.tail _ (.tail _ (.tail _ (.head _)))))⟩
  | i + 5, h => simp at h

theorem told_ready {prog : Program} {w : World} {h₀ h : Heap} {L sd al pg gl l a0 a1 a2 a3 a4 : Addr} {osd o5 y0 y1 y2 y3 y4 : Obj} {tl D9 TT : List (Addr × Obj)}
    (N : News h₀ L h ((l, o5) :: (a4, y4) :: (a3, y3) :: (a2, y2) :: (a1, y1) :: (a0, y0) :: (sd, osd) :: (al, listOf #[] 0) :: TT)) (hTT : D9 ++ (277, tabObj #[]) :: tl = TT)
    (c : ∀ x ∈ [l, a0, a1, a2, a3, a4], (∀ p ∈ TT, p.1 ≠ x) ∧ sd ≠ x ∧ al ≠ x)
    (n1 : ∀ q ∈ ((277, tabObj #[]) : Addr × Obj) :: tl, q.1 ≠ sd) (n2 : ∀ q ∈ ((277, tabObj #[]) : Addr × Obj) :: tl, q.1 ≠ al) (ap : Apart ((277, tabObj #[]) :: tl) D9) (n3 : sd ≠ al) (n4 : ∀ q ∈ D9, q.1 ≠ sd) (n5 : ∀ q ∈ D9, q.1 ≠ al) (h277 : ∀ q ∈ tl, q.1 ≠ 277) (hS : Scn prog w pg gl 0 st0 D9) :
    ∃ fr0 D, News h₀ L h ((sd, osd) :: (al, listOf ([] : List Value).toArray 0) :: (fr0 ++ D)) ∧ (l, o5) ∈ fr0 ∧ (∀ q ∈ [(a0, y0), (a1, y1), (a2, y2), (a3, y3), (a4, y4)], q ∈ fr0) ∧ (∀ q ∈ tl, q ∈ fr0) ∧ Apart fr0 D ∧ (∀ p ∈ fr0, p.1 ≠ sd) ∧ (∀ p ∈ fr0, p.1 ≠ al) ∧ DSt prog w pg gl sd al 0 st0 D := by
  subst hTT
  refine ⟨[(l, o5), (a0, y0), (a1, y1), (a2, y2), (a3, y3), (a4, y4)] ++ tl, (277, tabObj #[]) :: D9, news_sub N fun q hq => ?_, List.mem_append_left _ (.head _), fun q hq => List.mem_append_left _ (.tail _ hq), fun q hq => List.mem_append_right _ hq, ?_, ?_, ?_, ⟨#[], [], D9, rfl, hS, .nil, .none, ?_, List.forall_mem_cons.mpr ⟨?_, List.forall_mem_cons.mpr ⟨n4, List.forall_mem_cons.mpr ⟨n5, List.forall_mem_nil _⟩⟩⟩⟩⟩
  · simp only [List.mem_cons, List.mem_append] at hq ⊢
    rcases hq with h | h | ((h | h | h | h | h | h | h) | h) | h | h <;> simp_all
  · intro p hp q hq
    rcases List.mem_append.mp hp with hp | hp
    · have hx : p.1 ∈ [l, a0, a1, a2, a3, a4] := List.mem_map_of_mem (f := Prod.fst) hp
      refine (c _ hx).1 q ?_
      rcases List.mem_cons.mp hq with rfl | hq
      · exact List.mem_append_right _ (.head _)
      · exact List.mem_append_left _ hq
    · rcases List.mem_cons.mp hq with rfl | hq
      · exact fun e => h277 p hp e.symm
      · exact ap p (.tail _ hp) q hq
  · intro p hp
    rcases List.mem_append.mp hp with hp | hp
    · have hx : p.1 ∈ [l, a0, a1, a2, a3, a4] := List.mem_map_of_mem (f := Prod.fst) hp
      exact fun e => (c _ hx).2.1 e.symm
    · exact n1 p (.tail _ hp)
  · intro p hp
    rcases List.mem_append.mp hp with hp | hp
    · have hx : p.1 ∈ [l, a0, a1, a2, a3, a4] := List.mem_map_of_mem (f := Prod.fst) hp
      exact fun e => (c _ hx).2.2 e.symm
    · exact n2 p (.tail _ hp)
  · exact list_nd.mpr ⟨n1 _ (.head _), n2 _ (.head _), n3⟩
  · exact fun q hq => ap _ (.head _) q hq
theorem told_end {prog : Program} {w : World} {pg gl sd al : Addr} {z : Nat} {st : St} {D fr0 tl : List (Addr × Obj)} (hD : DSt prog w pg gl sd al z st D) (hA : Apart fr0 D) (ht : ∀ q ∈ tl, q ∈ fr0) : ∃ K, LTab K ∧ Apart tl K ∧ ∀ q ∈ K, q ∈ D := by
  obtain ⟨ps, C, tl2, rfl, hS, hC, hl, nd, sp⟩ := hD
  have up : ∀ q ∈ (277, tabObj ps) :: C, q ∈ (277, tabObj ps) :: (C ++ tl2) := fun q hq => List.mem_append_left tl2 hq
  exact ⟨(277, tabObj ps) :: C, ⟨ps, C, rfl, hl, fun q hq => sp 277 (.head _) q (List.mem_append_left _ hq)⟩, fun p hp q hq => hA p (ht p hp) q (up q hq), up⟩

theorem told_ready2 {prog : Program} {w : World} {h₀ h : Heap} {L sd al pg gl l a0 a1 a2 a3 a4 : Addr} {osd : Obj} {b0 b1 b2 b3 b4 c0 c1 c2 c3 c4 : Tok} {tl D9 TT : List (Addr × Obj)}
    (N : News h₀ L h ((l, listOf #[.ref a0, .ref a1, .ref a2, .ref a3, .ref a4] 0) :: (a4, { cls := .type "tuple", data := .seq #[.int 3 b4, .str "lock" c4] }) :: (a3, { cls := .type "tuple", data := .seq #[.int 0 b3, .str "unlock" c3] }) :: (a2, { cls := .type "tuple", data := .seq #[.int 2 b2, .str "lock" c2] }) :: (a1, { cls := .type "tuple", data := .seq #[.int 1 b1, .str "lock" c1] }) :: (a0, { cls := .type "tuple", data := .seq #[.int 0 b0, .str "lock" c0] }) :: (sd, osd) :: (al, listOf #[] 0) :: TT)) (hTT : D9 ++ (277, tabObj #[]) :: tl = TT)
    (c : ∀ x ∈ [l, a0, a1, a2, a3, a4], (∀ p ∈ TT, p.1 ≠ x) ∧ sd ≠ x ∧ al ≠ x)
    (n1 : ∀ q ∈ ((277, tabObj #[]) : Addr × Obj) :: tl, q.1 ≠ sd) (n2 : ∀ q ∈ ((277, tabObj #[]) : Addr × Obj) :: tl, q.1 ≠ al) (ap : Apart ((277, tabObj #[]) :: tl) D9) (n3 : sd ≠ al) (n4 : ∀ q ∈ D9, q.1 ≠ sd) (n5 : ∀ q ∈ D9, q.1 ≠ al) (h277 : ∀ q ∈ tl, q.1 ≠ 277) (hS : Scn prog w pg gl 0 st0 D9) :
    ∃ fr0 D vs5, News h₀ L h ((sd, osd) :: (al, listOf ([] : List Value).toArray 0) :: (fr0 ++ D)) ∧ vs5 = [Value.ref a0, .ref a1, .ref a2, .ref a3, .ref a4] ∧ (l, listOf vs5.toArray 0) ∈ fr0 ∧ vs5.length = 5 ∧ (∀ (i : Nat) (v : Value), vs5[i]? = some v → i < 5 ∧ ∃ a b c, v = .ref a ∧ (a, ({ cls := .type "tuple", data := .seq #[.int (fstG i) b, .str (fstW i) c] } : Obj)) ∈ fr0) ∧ (∀ q ∈ tl, q ∈ fr0) ∧ Apart fr0 D ∧ (∀ p ∈ fr0, p.1 ≠ sd) ∧ (∀ p ∈ fr0, p.1 ≠ al) ∧ DSt prog w pg gl sd al 0 st0 D := by
  obtain ⟨fr0, D, N', h1, h2, r⟩ := told_ready N hTT c n1 n2 ap n3 n4 n5 h277 hS
  exact ⟨fr0, D, _, N', rfl, h1, rfl, fun i v h => fst_item h2 h, r⟩
end Mine
end
section
open PySem PySem.W PySem.Spec PySem.Calls PyProof.Rows PySem.SeqAt
open PyProof.Rows.LCg PyProof.Rows.LCt


namespace Mine
section
variable {α : Type} {prog : Program} {w : World} {A : Around} {s : Shared} {h₀ : Heap} {L : Addr} {m : Str → Option Value} {env : Env} {ct elt : Expr} {x : Str} {scope : Scope} {cl : List (Str × Addr)} {S : List (Addr × Obj) → Prop} {P : Nat → Value → Prop} {Fin : List Value → List (Addr × Obj) → Prop} {news : List (Addr × Obj)} {f : α → Bool} {G0 G : Value → α → Prop}
/-- the turns of a list comprehension with a test that only looks, over any source -/
theorem comp_rowsP (hS : S news)
    (turn : ∀ v r I oI C oC D ys m₂ h tk (E' : Value → Shared → Prop), G0 v r → NsObj oC m₂ → m₂ x = some v → Fr h₀ L h m → News h₀ L h ((I, oI) :: (C, oC) :: (D, lst ys) :: news) →
      wpAny (model prog w) A (isTrue ct (compEnvC scope cl C env) (eval ct (compEnvC scope cl C env))) (fun ok s' => if ok = true then f r = true ∧
        wpAny (model prog w) A (eval elt (compEnvC scope cl C env)) (fun y s'' => G y r ∧ ∃ tk', s'' = { s with heap := h, toks := tk' }) E' s' else f r = false ∧ ∃ tk', s' = { s with heap := h, toks := tk' }) E' { s with heap := h, toks := tk }) :
    ∀ (rs : List α) (i : Nat) (ys : List Value), (∀ j v r, P (i + j) v → rs[j]? = some r → G0 v r) → (∀ zs, Rel2 G zs (rs.filter f) → Fin (ys ++ zs) news) →
      CompRestT prog w A h₀ L m env ct elt x scope cl s S P Fin rs.length i ys news
  | [], i, ys, _, fin => CompRestT.zero (by simpa using fin [] .nil)
  | r :: rs, i, ys, hi, fin => by
    refine CompRestT.succ ?_
    intro v I oI C oC D m₂ h tk E' hP hC hx F N off ne
    have hr : G0 v r := hi 0 v r hP rfl
    have hi' : ∀ j v' r', P (i + 1 + j) v' → rs[j]? = some r' → G0 v' r' := fun j v' r' hp hq => by
      refine hi (j + 1) v' r' ?_ (by simpa using hq)
      rw [show i + (j + 1) = i + 1 + j by omega]
      exact hp
    refine wpAny_mono (turn v r I oI C oC D ys m₂ h tk E' hr hC hx F N) (fun ok s' hok => ?_) fun _ _ e => e
    cases ok with
    | true =>
      simp only [if_true] at hok ⊢
      obtain ⟨hf, hok⟩ := hok
      refine wpAny_mono hok (fun y s'' hy => ?_) fun _ _ e => e
      obtain ⟨hG, tk', rfl⟩ := hy
      refine ⟨h, tk', news, rfl, F, N, off, hS, comp_rowsP hS turn rs (i + 1) (ys ++ [y]) hi' fun zs hz => ?_⟩
      rw [List.append_assoc]
      refine fin (y :: zs) ?_
      rw [List.filter_cons, if_pos hf]
      exact .cons hG hz
    | false =>
      simp only [Bool.false_eq_true, if_false] at hok ⊢
      obtain ⟨hf, tk', rfl⟩ := hok
      refine ⟨h, tk', news, rfl, F, N, off, hS, comp_rowsP hS turn rs (i + 1) ys hi' fun zs hz => ?_⟩
      refine fin zs ?_
      rw [List.filter_cons, if_neg (by rw [hf]; decide)]
      exact hz
end
end Mine
end
section
open PySem PySem.W PySem.Spec PySem.Calls PyProof.Rows PySem.SeqAt


namespace Mine
theorem law_ready {prog : Program} {w : World} {h₀ h : Heap} {L sd al pg gl r cell : Addr} {osd oc src : Obj} {D K : List (Addr × Obj)}
    (N : News h₀ L h ((sd, osd) :: (al, listOf #[] 0) :: (D ++ (r, src) :: (cell, oc) :: K))) (hK : LTab K) (hc : ∀ q ∈ K, q.1 ≠ cell) (hr : ∀ q ∈ (cell, oc) :: K, q.1 ≠ r)
    (n1 : ∀ q ∈ (r, src) :: (cell, oc) :: K, q.1 ≠ sd) (n2 : ∀ q ∈ (r, src) :: (cell, oc) :: K, q.1 ≠ al) (ap : Apart ((r, src) :: (cell, oc) :: K) D) (n3 : sd ≠ al) (n4 : ∀ q ∈ D, q.1 ≠ sd) (n5 : ∀ q ∈ D, q.1 ≠ al) (hS : Scn prog w pg gl 0 st0 D) :
    ∃ TT, News h₀ L h ((r, src) :: (cell, oc) :: (sd, osd) :: (al, listOf ([] : List Value).toArray 0) :: TT) ∧ DSt prog w pg gl sd al 0 st0 TT ∧ (∀ q ∈ TT, q.1 ≠ r) ∧ (∀ q ∈ TT, q.1 ≠ cell) ∧ (∀ q ∈ TT, q.1 ≠ sd) ∧ (∀ q ∈ TT, q.1 ≠ al) ∧ cell ≠ r ∧ sd ≠ r ∧ al ≠ r ∧ sd ≠ cell ∧ al ≠ cell ∧ sd ≠ al := by
  obtain ⟨ps, C, rfl, hl, hC⟩ := hK
  have up : ∀ {a : Addr}, (∀ q ∈ (277, tabObj ps) :: C, q.1 ≠ a) → (∀ q ∈ D, q.1 ≠ a) → ∀ q ∈ (277, tabObj ps) :: (C ++ D), q.1 ≠ a := fun h1 h2 q hq => (List.mem_append.mp (show q ∈ ((277, tabObj ps) :: C) ++ D from hq)).elim (h1 q) (h2 q)
  have k1 : ∀ q ∈ (277, tabObj ps) :: C, q.1 ≠ sd := fun q hq => n1 q (.tail _ (.tail _ hq))
  have k2 : ∀ q ∈ (277, tabObj ps) :: C, q.1 ≠ al := fun q hq => n2 q (.tail _ (.tail _ hq))
  refine ⟨(277, tabObj ps) :: (C ++ D), news_sub N fun q hq => ?_, ⟨ps, C, D, rfl, hS, fun p hp => ap p (.tail _ (.tail _ (.tail _ hp))), hl, list_nd.mpr ⟨k1 _ (.head _), k2 _ (.head _), n3⟩, List.forall_mem_cons.mpr ⟨?_, List.forall_mem_cons.mpr ⟨fun q hq => up k1 n4 q (.tail _ hq), List.forall_mem_cons.mpr ⟨fun q hq => up k2 n5 q (.tail _ hq), List.forall_mem_nil _⟩⟩⟩⟩,
    up (fun q hq => hr q (.tail _ hq)) (ap _ (.head _)), up hc (ap _ (.tail _ (.head _))), up k1 n4, up k2 n5, hr _ (.head _), Ne.symm (n1 _ (.head _)), Ne.symm (n2 _ (.head _)), Ne.symm (n1 _ (.tail _ (.head _))), Ne.symm (n2 _ (.tail _ (.head _))), n3⟩
  · rcases List.mem_cons.mp hq with rfl | hq
    · exact .tail _ (.tail _ (List.mem_append_right _ (.head _)))
    rcases List.mem_cons.mp hq with rfl | hq
    · exact .tail _ (.tail _ (List.mem_append_right _ (.tail _ (.head _))))
    rcases List.mem_cons.mp hq with rfl | hq
    · exact .head _
    rcases List.mem_cons.mp hq with rfl | hq
    · exact .tail _ (.head _)
    rcases List.mem_append.mp (show q ∈ ((277, tabObj ps) :: C) ++ D from hq) with hq | hq
    · exact .tail _ (.tail _ (List.mem_append_right _ (.tail _ (.tail _ hq))))
    · exact .tail _ (.tail _ (List.mem_append_left _ hq))
  · exact fun q hq => (List.mem_append.mp hq).elim (hC q) (ap _ (.tail _ (.tail _ (.head _))) q)
theorem four_names {x y z v : Str} {m : Str → Option Value} {u1 u2 u3 u4 a b c d : Option Value} (h1 : x ≠ y) (h2 : x ≠ z) (h3 : x ≠ v) (h4 : y ≠ z) (h5 : y ≠ v) (h6 : z ≠ v) :
    (fun t => if t = v then d else (fun t => if t = z then c else (fun t => if t = y then b else (fun t => if t = x then a else (fun t => if t = x then u1 else if t = y then u2 else if t = z then u3 else if t = v then u4 else m t) t) t) t) t) = fun t => if t = x then a else if t = y then b else if t = z then c else if t = v then d else m t := by
  funext t
  by_cases e1 : t = x
  · subst e1; simp [h1, h2, h3]
  by_cases e2 : t = y
  · subst e2; simp [h1.symm, h4, h5]
  by_cases e3 : t = z
  · subst e3; simp [h2.symm, h4.symm, h6]
  by_cases e4 : t = v
  · subst e4; simp [h3.symm, h5.symm, h6.symm]
  · simp [e1, e2, e3, e4]
theorem four_start {x y z v : Str} {m : Str → Option Value} : m = fun t => if t = x then m x else if t = y then m y else if t = z then m z else if t = v then m v else m t := by
  funext t
  by_cases e1 : t = x
  · subst e1; rw [if_pos rfl]
  rw [if_neg e1]
  by_cases e2 : t = y
  · subst e2; rw [if_pos rfl]
  rw [if_neg e2]
  by_cases e3 : t = z
  · subst e3; rw [if_pos rfl]
  rw [if_neg e3]
  by_cases e4 : t = v
  · subst e4; rw [if_pos rfl]
  rw [if_neg e4]
/-- between the law's turns -/
def JW (prog : Program) (w : World) (r cell sd al pg gl : Addr) (osd oc : Obj) (m : Str → Option Value) (i : Nat) (m₁ : Str → Option Value) (nx : List (Addr × Obj)) : Prop :=
  ∃ u1 u2 u3 u4 a b ta tb as na st asl D, nx = (r, listOf #[.int a ta, .int b tb] 0) :: (cell, oc) :: (sd, osd) :: (al, listOf as.toArray na) :: D ∧ (m₁ = fun (t : Str) => if t = "turn" then u1 else if t = "free" then u2 else if t = "word" then u3 else if t = "at" then u4 else m t) ∧
    DSt prog w pg gl sd al i st D ∧ (∀ q ∈ D, q.1 ≠ r) ∧ (∀ q ∈ D, q.1 ≠ cell) ∧ LReads [] as (asl.map .int) ∧ Inv i st asl ∧ 0 ≤ a ∧ 0 ≤ b ∧ b < 2147483647
section
variable {prog : Program} {w : World} {r cell sd al pg gl : Addr} {osd oc : Obj} {m : Str → Option Value} {D D' l : List (Addr × Obj)} {h₀ h' : Heap} {L I : Addr} {oI : Obj} {a b : Int} {ta tb : Tok}
theorem JW.start {na : Nat} (hD : DSt prog w pg gl sd al 0 st0 D) (hr : ∀ q ∈ D, q.1 ≠ r) (hc : ∀ q ∈ D, q.1 ≠ cell) (h1 : 0 ≤ a) (h2 : 0 ≤ b) (h3 : b < 2147483647) :
    JW prog w r cell sd al pg gl osd oc m 0 m ((r, listOf #[.int a ta, .int b tb] 0) :: (cell, oc) :: (sd, osd) :: (al, listOf ([] : List Value).toArray na) :: D) :=
  ⟨m "turn", m "free", m "word", m "at", a, b, ta, tb, [], na, st0, [], D, rfl, four_start, hD, hr, hc, .nil, inv0, h1, h2, h3⟩
theorem turn_law {i tk : Nat} {u1 u2 u3 u4 : Option Value} {v1 v2 v3 v4 : Value} {as : List Value} {na : Nat} {st : St} {asl : List Int} {s₁ : Shared} {Q : Flow → Shared → Prop} {o o' : Obj}
    (F : Fr h₀ L h' (fun (t : Str) => if t = "at" then some v4 else (fun (t : Str) => if t = "word" then some v3 else (fun (t : Str) => if t = "free" then some v2 else (fun (t : Str) => if t = "turn" then some v1 else (fun (t : Str) => if t = "turn" then u1 else if t = "free" then u2 else if t = "word" then u3 else if t = "at" then u4 else m t) t) t) t) t))
    (N : News h₀ L h' l) (s : ∀ q ∈ (I, oI) :: (r, listOf #[.int a ta, .int b tb] 0) :: (cell, oc) :: (sd, osd) :: (al, listOf as.toArray na) :: D', q ∈ l)
    (off : ∀ p ∈ (r, o) :: (cell, oc) :: (sd, osd) :: (al, o') :: D, p.1 ≠ I) (hD : DSt prog w pg gl sd al (i + 1) st D') (hA : Apart [(I, oI), (r, listOf #[.int a ta, .int b tb] 0), (cell, oc)] D') (R : LReads [] as (asl.map .int)) (hI : Inv (i + 1) st asl) (h1 : 0 ≤ a) (h2 : 0 ≤ b) (h3 : b < 2147483647) :
    TurnPost h₀ L I oI (JW prog w r cell sd al pg gl osd oc m (i + 1)) s₁ Q .next { s₁ with heap := h', toks := tk } := by
  refine ⟨_, _, _, _, rfl, F, news_sub N s, fun p hp => ?_, ⟨some v1, some v2, some v3, some v4, a, b, ta, tb, as, na, st, asl, D', rfl, four_names (by decide) (by decide) (by decide) (by decide) (by decide) (by decide), hD, hA _ (.tail _ (.head _)), hA _ (.tail _ (.tail _ (.head _))), R, hI, h1, h2, h3⟩⟩
  rcases List.mem_cons.mp hp with rfl | hp
  · exact off (r, o) (.head _)
  rcases List.mem_cons.mp hp with rfl | hp
  · exact off _ (.tail _ (.head _))
  rcases List.mem_cons.mp hp with rfl | hp
  · exact off _ (.tail _ (.tail _ (.head _)))
  rcases List.mem_cons.mp hp with rfl | hp
  · exact off (al, o') (.tail _ (.tail _ (.tail _ (.head _))))
  · exact hA _ (.head _) _ hp
end
/-- the words -/
def IsWord (x : Str) : Prop := x = "lock" ∨ x = "unlock" ∨ x = "add" ∨ x = "wait"
theorem word_item {t0 t1 t2 t3 t4 t5 t6 : Tok} {i : Nat} {v : Value} (h : [Value.str "lock" t0, .str "lock" t1, .str "unlock" t2, .str "unlock" t3, .str "add" t4, .str "add" t5, .str "wait" t6][i]? = some v) : ∃ x t, v = .str x t ∧ IsWord x := by
  match i, h with
  | 0, h => cases h; exact ⟨_, _, rfl, .inl rfl⟩
  | 1, h => cases h; exact ⟨_, _, rfl, .inl rfl⟩
  | 2, h => cases h; exact ⟨_, _, rfl, .inr (.inl rfl)⟩
  | 3, h => cases h; exact ⟨_, _, rfl, .inr (.inl rfl)⟩
  | 4, h => cases h; exact ⟨_, _, rfl, .inr (.inr (.inl rfl))⟩
  | 5, h => cases h; exact ⟨_, _, rfl, .inr (.inr (.inl rfl))⟩
  | 6, h => cases h; exact ⟨_, _, rfl, .inr (.inr (.inr rfl))⟩
  | i + 7, h => simp at h
theorem int_item {a0 a1 a2 a3 a4 a5 a6 : Int} {t0 t1 t2 t3 t4 t5 t6 : Tok} {i : Nat} {v : Value} (h : [Value.int a0 t0, .int a1 t1, .int a2 t2, .int a3 t3, .int a4 t4, .int a5 t5, .int a6 t6][i]? = some v) : ∃ x t, v = .int x t := by
  match i, h with
  | 0, h => cases h; exact ⟨_, _, rfl⟩
  | 1, h => cases h; exact ⟨_, _, rfl⟩
  | 2, h => cases h; exact ⟨_, _, rfl⟩
  | 3, h => cases h; exact ⟨_, _, rfl⟩
  | 4, h => cases h; exact ⟨_, _, rfl⟩
  | 5, h => cases h; exact ⟨_, _, rfl⟩
  | 6, h => cases h; exact ⟨_, _, rfl⟩
  | i + 7, h => simp at h
def isGrp (x : Str) : Bool := decide (x = "add") || decide (x = "wait")
theorem deed_of {x : Str} {k : Int} (h : IsWord x) (h0 : 0 ≤ k) (h2 : k < 2) : Deed x (k + 2 * (if isGrp x = true then 1 else 0)) := by
  rcases h with rfl | rfl | rfl | rfl
  · rw [if_neg (by decide), Int.mul_zero, Int.add_zero]; exact .lock h0 h2
  · rw [if_neg (by decide), Int.mul_zero, Int.add_zero]; exact .unlock h0 h2
  · rw [if_pos (by decide)]; exact .add (by omega) (by omega)
  · rw [if_pos (by decide)]; exact .wait (by omega) (by omega)
theorem word_ok {x : Str} (h : IsWord x) : PyData.strOk x = true := by
  rcases h with rfl | rfl | rfl | rfl <;> decide +kernel
section
variable {prog : Program} {w : World} {A : Around} {E : Value → Shared → Prop} {s : Shared} {h₀ : Heap} {L l : Addr} {news : List (Addr × Obj)} {n : Nat}
theorem in_words {x : Str} {t t1 t2 : Tok} {Q : Value → Shared → Prop} (N : News h₀ L s.heap news) (hm : (l, listOf #[.str "add" t1, .str "wait" t2] n) ∈ news) (hx : IsWord x) (hu : A.units + 8 < cLine)
    (h : Q (.bool (isGrp x)) s) : wpAny (model prog w) A (compareOp .In (.str x t) (.ref l)) Q E s := by
  have rs : ReadsAll s.heap [Value.str "add" t1, .str "wait" t2] [.str "add", .str "wait"] [] := .cons (.str _ _) (.cons (.str _ _) .nil)
  refine SeqAt.in_list_reads (reads_list_at (vs := #[.str "add" t1, .str "wait" t2]) (N.get hm) rfl rfl rs) (.str x t) (by decide +kernel) (word_ok hx) (by show A.units + (min (max 0 (max 0 0)) 0) + _ < _; omega) ?_
  have : ([PyData.str "add", PyData.str "wait"].any fun y => PyData.eqv y (.str x)) = isGrp x := by
    rcases hx with rfl | rfl | rfl | rfl <;> decide +kernel
  rw [this]
  exact h
end
/-- who is free -/
def freeOf (asl : List Int) : List Int := [0, 1, 2, 3].filter (fun r => !(asl.contains r))
theorem free_len (asl : List Int) : (freeOf asl).length ≤ 4 := List.length_filter_le ..
theorem free_mem {asl : List Int} {g : Int} {i : Nat} (h : (freeOf asl)[i]? = some g) : g ∉ asl := by
  have := (List.mem_filter.mp (List.mem_of_getElem? h)).2
  simpa using this
theorem told_swap {h₀ h : Heap} {L c : Addr} {o : Obj} (N : News h₀ L h [(c, o), (277, tabObj #[])]) : News h₀ L h ((277, tabObj #[]) :: [(c, o)]) := news_sub N fun q hq => by
  simp only [List.mem_cons, List.not_mem_nil, or_false] at hq ⊢
  exact hq.symm
theorem back_swap {h₀ h : Heap} {L c : Addr} {o : Obj} {K : List (Addr × Obj)} (N : News h₀ L h (K ++ [(c, o)])) : News h₀ L h ((c, o) :: K) := news_sub N fun q hq => by
  simp only [List.mem_cons, List.mem_append, List.not_mem_nil, or_false] at hq ⊢
  exact hq.symm
theorem range_n {k : Int} (h0 : 0 ≤ k) : Builtin.Range.rangeSize 0 (8 + k) 1 = (((8 + k).toNat : Nat) : Int) := by
  rw [rangeSize_one]
  split <;> omega
theorem range_sm {k : Int} (h0 : 0 ≤ k) (h1 : k < 13) : Builtin.Range.small 0 (8 + k) 1 = true := small_one (by decide) (by decide) (by omega) (by omega)
theorem four_item {j : Nat} {v : Value} {r : Int} (h : ∃ t, v = .int (0 + ((0 + j : Nat) : Int)) t) (e : ([0, 1, 2, 3] : List Int)[j]? = some r) : ∃ t, v = .int r t := by
  obtain ⟨t, rfl⟩ := h
  match j, e with
  | 0, e => cases e; exact ⟨t, rfl⟩
  | 1, e => cases e; exact ⟨t, rfl⟩
  | 2, e => cases e; exact ⟨t, rfl⟩
  | 3, e => cases e; exact ⟨t, rfl⟩
  | j + 4, e => simp at e
theorem good_true {cl : Str → Option Addr} {mean : ExcName → Option Value} {args : List WData} {s₁ s' : Shared} (hk : ∀ b o, s₁.heap.get? b = some o → s'.heap.get? b = some o) (ho : s'.os = s₁.os) (hg : s'.gens = #[]) :
    GoodW PySem.Challenge.rw_on0010_01.row.claim cl mean args s₁ (.ok (.ret (.bool true))) s' := by
  have hp : PySem.Challenge.rw_on0010_01.row.claim.post args (.bool true) args = true := by wrow_post
  exact ⟨.inl ⟨.bool true, .bool true, [], rfl, fun _ => rfl, .bool true, hp, fun _ => ⟨.nil, fun _ h => nomatch h⟩⟩, hk, ho, hg⟩
theorem pulls2 {h₀ h : Heap} {L e1 e2 : Addr} {o1 o2 : Obj} {l l1 l2 : List (Addr × Obj)} (N : News h₀ L h l) (x1 : Pull e1 o1 l l1) (x2 : Pull e2 o2 l1 l2) : News h₀ L h ((e1, o1) :: (e2, o2) :: l2) :=
  news_sub N fun q hq => x1.sub q (sub_cons x2.sub q hq)
theorem grown {h₀ h : Heap} {L : Addr} {l D : List (Addr × Obj)} {prog : Program} {w : World} {pg gl sd al : Addr} {z : Nat} {st : St} (N : News h₀ L h l) (hD : DSt prog w pg gl sd al z st D) (s : ∀ q ∈ D, q ∈ l) : GrownAll [(281, 277)] h := by
  obtain ⟨ps, C, tl2, rfl, _⟩ := hD
  exact ⟨GrownAt.of N (s _ (.head _)), True.intro⟩
theorem led_len {zs : List Value} {q : List Int} (h : LReads [] zs (q.map .int)) : zs.length = q.length := by
  have := h.length_eq (h := default) (fun _ h => nomatch h)
  simpa using this
end Mine
end
section
open PySem PySem.W PySem.Calls PyProof.Rows

namespace Mine
/-- a value at which P fails, if P fails anywhere: what holds there holds everywhere -/
noncomputable def Uf {α : Type} (_ : Nonempty α) (P : α → Prop) : α := Classical.epsilon (fun x => ¬ P x)
theorem all_eps {α : Type} [ne : Nonempty α] {P : α → Prop} (h : P (Uf ne P)) : ∀ x, P x := by
  intro x
  by_cases hx : P x
  · exact hx
  · exact absurd h (Classical.epsilon_spec (p := fun x => ¬ P x) ⟨x, hx⟩)
theorem not_true_f : (!true) = false := rfl
theorem ne_pair {α β : Type} (a : Nonempty α) (b : Nonempty β) : Nonempty (α × β) := a.elim fun x => b.elim fun y => ⟨(x, y)⟩
theorem ne_world : Nonempty World := ⟨⟨fun _ _ => 0, { strHash := fun _ => 0, shareClass := fun _ => 0, mergeTok := fun t => t, idOf := fun _ => 0, idOfShared := fun _ _ => 0, followText := fun _ => false, idOfImm := fun _ => 0 }⟩⟩
theorem ne_shared : Nonempty Shared := ⟨{}⟩
theorem ne_around : Nonempty Around := ⟨{}⟩
end Mine
end
section
open PySem PySem.W PySem.Calls PyProof.Rows PySem.Spec
namespace Mine
abbrev TT : Type := (Program) × (World) × (Program) × (List Str) × (ExcName → Option Value) × (Str → Option Value) × (Str → Option Value) × (Nat) × (Nat) × (Option (List Code)) × (Str) × (Scope) × (Addr) × (Value) × (List (Str × Addr)) × (List Env) × (Around) × (Heap) × (Heap) × (Addr) × (Str → Option Value) × (Shared) × (Value → Shared → Prop) × (Value → Shared → Prop) × (List (Addr × Obj)) × (Tok) × (Tok) × (Tok) × (Int) × (Int) × (Addr) × (Int) × (Addr) × (Addr) × (Tok) × (Tok) × (Obj) × (Tok) × (Tok) × (Tok) × (Tok) × (Value) × (Addr) × (Nat) × (List Value) × (Addr) × (Addr) × (List Int) × (Addr) × (Addr) × (Addr) × (Tok) × (Nat) × (Nat) × (Nat) × (Int → Int) × (List Value) × (List Value) × (List Int) × (List (Int × Int)) × (Obj) × (List (Addr × Obj)) × (Nat) × (List (Addr × Obj)) × (St) × (Str) × (Addr) × (Tok) × (Int) × (Value) × (Nat) × (List Value) × (Value) × (Tok) × (Int) × (Bool) × (List Int) × (Str) × (List (Addr × Obj)) × (Addr) × (Nat) × (List Value) × (St) × (List Int) × (St) × (List (Addr × Obj)) × (Addr) × (List (Int × Int)) × (List (Int × Int)) × (List Int) × (Tok) × (List Int) × (St) × (List (Addr × Obj)) × (Array Value) × (Int) × (Int) × (Tok) × (Int) × (List Value) × (Int) × (Int) × (List Value) × (List Int) × (Tok) × (Int) × (Tok) × (Addr) × (Nat)
theorem neTT : Nonempty TT := by
  unfold TT
  repeat' (first | infer_instance | exact ne_world | exact ne_shared | exact ne_around | exact ⟨st0⟩ | refine' ne_pair ?_ ?_)
open Classical in
/-- a value at which P fails, if P fails anywhere; else k -/
noncomputable def pk (P : TT → Prop) (k : TT) : TT := if h : ∃ x, ¬ P x then Classical.choose h else k
theorem pk_all {P : TT → Prop} {k c : TT} (e : c = pk P k) (h : P c) : ∀ x, P x := by
  intro x
  by_cases hx : P x
  · exact hx
  · have hex : ∃ x, ¬ P x := ⟨x, hx⟩
    rw [e, pk, dif_pos hex] at h
    exact absurd h (Classical.choose_spec hex)
theorem pk_next {P : TT → Prop} {k c : TT} (e : c = pk P k) (h : ∀ x, P x) : c = k := by
  rw [e, pk, dif_neg (fun ⟨x, hx⟩ => hx (h x))]
noncomputable def y_prog (x : TT) : Program := x.1
noncomputable def y_w (x : TT) : World := x.2.1
noncomputable def y_p (x : TT) : Program := x.2.2.1
noncomputable def y_loose (x : TT) : List Str := x.2.2.2.1
noncomputable def y_mean (x : TT) : ExcName → Option Value := x.2.2.2.2.1
noncomputable def y_mg (x : TT) : Str → Option Value := x.2.2.2.2.2.1
noncomputable def y_mb (x : TT) : Str → Option Value := x.2.2.2.2.2.2.1
noncomputable def y_dp (x : TT) : Nat := x.2.2.2.2.2.2.2.1
noncomputable def y_un (x : TT) : Nat := x.2.2.2.2.2.2.2.2.1
noncomputable def y_gd (x : TT) : Option (List Code) := x.2.2.2.2.2.2.2.2.2.1
noncomputable def y_cn (x : TT) : Str := x.2.2.2.2.2.2.2.2.2.2.1
noncomputable def y_cs (x : TT) : Scope := x.2.2.2.2.2.2.2.2.2.2.2.1
noncomputable def y_a (x : TT) : Addr := x.2.2.2.2.2.2.2.2.2.2.2.2.1
noncomputable def y_ccd (x : TT) : Value := x.2.2.2.2.2.2.2.2.2.2.2.2.2.1
noncomputable def y_cl (x : TT) : List (Str × Addr) := x.2.2.2.2.2.2.2.2.2.2.2.2.2.2.1
noncomputable def y_outer (x : TT) : List Env := x.2.2.2.2.2.2.2.2.2.2.2.2.2.2.2.1
noncomputable def y_A₀ (x : TT) : Around := x.2.2.2.2.2.2.2.2.2.2.2.2.2.2.2.2.1
noncomputable def y_base (x : TT) : Heap := x.2.2.2.2.2.2.2.2.2.2.2.2.2.2.2.2.2.1
noncomputable def y_h₀ (x : TT) : Heap := x.2.2.2.2.2.2.2.2.2.2.2.2.2.2.2.2.2.2.1
noncomputable def y_L (x : TT) : Addr := x.2.2.2.2.2.2.2.2.2.2.2.2.2.2.2.2.2.2.2.1
noncomputable def y_m (x : TT) : Str → Option Value := x.2.2.2.2.2.2.2.2.2.2.2.2.2.2.2.2.2.2.2.2.1
noncomputable def y_s (x : TT) : Shared := x.2.2.2.2.2.2.2.2.2.2.2.2.2.2.2.2.2.2.2.2.2.1
noncomputable def y_Q (x : TT) : Value → Shared → Prop := x.2.2.2.2.2.2.2.2.2.2.2.2.2.2.2.2.2.2.2.2.2.2.1
noncomputable def y_E (x : TT) : Value → Shared → Prop := x.2.2.2.2.2.2.2.2.2.2.2.2.2.2.2.2.2.2.2.2.2.2.2.1
noncomputable def y_tl (x : TT) : List (Addr × Obj) := x.2.2.2.2.2.2.2.2.2.2.2.2.2.2.2.2.2.2.2.2.2.2.2.2.1
noncomputable def y_tg (x : TT) : Tok := x.2.2.2.2.2.2.2.2.2.2.2.2.2.2.2.2.2.2.2.2.2.2.2.2.2.1
noncomputable def y_t1 (x : TT) : Tok := x.2.2.2.2.2.2.2.2.2.2.2.2.2.2.2.2.2.2.2.2.2.2.2.2.2.2.1
noncomputable def y_t2 (x : TT) : Tok := x.2.2.2.2.2.2.2.2.2.2.2.2.2.2.2.2.2.2.2.2.2.2.2.2.2.2.2.1
noncomputable def y_g (x : TT) : Int := x.2.2.2.2.2.2.2.2.2.2.2.2.2.2.2.2.2.2.2.2.2.2.2.2.2.2.2.2.1
noncomputable def y_k (x : TT) : Int := x.2.2.2.2.2.2.2.2.2.2.2.2.2.2.2.2.2.2.2.2.2.2.2.2.2.2.2.2.2.1
noncomputable def y_wl (x : TT) : Addr := x.2.2.2.2.2.2.2.2.2.2.2.2.2.2.2.2.2.2.2.2.2.2.2.2.2.2.2.2.2.2.1
noncomputable def y_many (x : TT) : Int := x.2.2.2.2.2.2.2.2.2.2.2.2.2.2.2.2.2.2.2.2.2.2.2.2.2.2.2.2.2.2.2.1
noncomputable def y_pg (x : TT) : Addr := x.2.2.2.2.2.2.2.2.2.2.2.2.2.2.2.2.2.2.2.2.2.2.2.2.2.2.2.2.2.2.2.2.1
noncomputable def y_sd (x : TT) : Addr := x.2.2.2.2.2.2.2.2.2.2.2.2.2.2.2.2.2.2.2.2.2.2.2.2.2.2.2.2.2.2.2.2.2.1
noncomputable def y_ta (x : TT) : Tok := x.2.2.2.2.2.2.2.2.2.2.2.2.2.2.2.2.2.2.2.2.2.2.2.2.2.2.2.2.2.2.2.2.2.2.1
noncomputable def y_t3 (x : TT) : Tok := x.2.2.2.2.2.2.2.2.2.2.2.2.2.2.2.2.2.2.2.2.2.2.2.2.2.2.2.2.2.2.2.2.2.2.2.1
noncomputable def y_osd (x : TT) : Obj := x.2.2.2.2.2.2.2.2.2.2.2.2.2.2.2.2.2.2.2.2.2.2.2.2.2.2.2.2.2.2.2.2.2.2.2.2.1
noncomputable def y_tm (x : TT) : Tok := x.2.2.2.2.2.2.2.2.2.2.2.2.2.2.2.2.2.2.2.2.2.2.2.2.2.2.2.2.2.2.2.2.2.2.2.2.2.1
noncomputable def y_tw (x : TT) : Tok := x.2.2.2.2.2.2.2.2.2.2.2.2.2.2.2.2.2.2.2.2.2.2.2.2.2.2.2.2.2.2.2.2.2.2.2.2.2.2.1
noncomputable def y_t4 (x : TT) : Tok := x.2.2.2.2.2.2.2.2.2.2.2.2.2.2.2.2.2.2.2.2.2.2.2.2.2.2.2.2.2.2.2.2.2.2.2.2.2.2.2.1
noncomputable def y_t5 (x : TT) : Tok := x.2.2.2.2.2.2.2.2.2.2.2.2.2.2.2.2.2.2.2.2.2.2.2.2.2.2.2.2.2.2.2.2.2.2.2.2.2.2.2.2.1
noncomputable def y_al (x : TT) : Value := x.2.2.2.2.2.2.2.2.2.2.2.2.2.2.2.2.2.2.2.2.2.2.2.2.2.2.2.2.2.2.2.2.2.2.2.2.2.2.2.2.2.1
noncomputable def y_gl (x : TT) : Addr := x.2.2.2.2.2.2.2.2.2.2.2.2.2.2.2.2.2.2.2.2.2.2.2.2.2.2.2.2.2.2.2.2.2.2.2.2.2.2.2.2.2.2.1
noncomputable def y_n (x : TT) : Nat := x.2.2.2.2.2.2.2.2.2.2.2.2.2.2.2.2.2.2.2.2.2.2.2.2.2.2.2.2.2.2.2.2.2.2.2.2.2.2.2.2.2.2.2.1
noncomputable def y_vs (x : TT) : List Value := x.2.2.2.2.2.2.2.2.2.2.2.2.2.2.2.2.2.2.2.2.2.2.2.2.2.2.2.2.2.2.2.2.2.2.2.2.2.2.2.2.2.2.2.2.1
noncomputable def y_x (x : TT) : Addr := x.2.2.2.2.2.2.2.2.2.2.2.2.2.2.2.2.2.2.2.2.2.2.2.2.2.2.2.2.2.2.2.2.2.2.2.2.2.2.2.2.2.2.2.2.2.1
noncomputable def y_xd (x : TT) : Addr := x.2.2.2.2.2.2.2.2.2.2.2.2.2.2.2.2.2.2.2.2.2.2.2.2.2.2.2.2.2.2.2.2.2.2.2.2.2.2.2.2.2.2.2.2.2.2.1
noncomputable def y_q (x : TT) : List Int := x.2.2.2.2.2.2.2.2.2.2.2.2.2.2.2.2.2.2.2.2.2.2.2.2.2.2.2.2.2.2.2.2.2.2.2.2.2.2.2.2.2.2.2.2.2.2.2.1
noncomputable def y_pd (x : TT) : Addr := x.2.2.2.2.2.2.2.2.2.2.2.2.2.2.2.2.2.2.2.2.2.2.2.2.2.2.2.2.2.2.2.2.2.2.2.2.2.2.2.2.2.2.2.2.2.2.2.2.1
noncomputable def y_hl (x : TT) : Addr := x.2.2.2.2.2.2.2.2.2.2.2.2.2.2.2.2.2.2.2.2.2.2.2.2.2.2.2.2.2.2.2.2.2.2.2.2.2.2.2.2.2.2.2.2.2.2.2.2.2.1
noncomputable def y_dc (x : TT) : Addr := x.2.2.2.2.2.2.2.2.2.2.2.2.2.2.2.2.2.2.2.2.2.2.2.2.2.2.2.2.2.2.2.2.2.2.2.2.2.2.2.2.2.2.2.2.2.2.2.2.2.2.1
noncomputable def y_t6 (x : TT) : Tok := x.2.2.2.2.2.2.2.2.2.2.2.2.2.2.2.2.2.2.2.2.2.2.2.2.2.2.2.2.2.2.2.2.2.2.2.2.2.2.2.2.2.2.2.2.2.2.2.2.2.2.2.1
noncomputable def y_nt (x : TT) : Nat := x.2.2.2.2.2.2.2.2.2.2.2.2.2.2.2.2.2.2.2.2.2.2.2.2.2.2.2.2.2.2.2.2.2.2.2.2.2.2.2.2.2.2.2.2.2.2.2.2.2.2.2.2.1
noncomputable def y_n1 (x : TT) : Nat := x.2.2.2.2.2.2.2.2.2.2.2.2.2.2.2.2.2.2.2.2.2.2.2.2.2.2.2.2.2.2.2.2.2.2.2.2.2.2.2.2.2.2.2.2.2.2.2.2.2.2.2.2.2.1
noncomputable def y_n3 (x : TT) : Nat := x.2.2.2.2.2.2.2.2.2.2.2.2.2.2.2.2.2.2.2.2.2.2.2.2.2.2.2.2.2.2.2.2.2.2.2.2.2.2.2.2.2.2.2.2.2.2.2.2.2.2.2.2.2.2.1
noncomputable def y_cnt (x : TT) : Int → Int := x.2.2.2.2.2.2.2.2.2.2.2.2.2.2.2.2.2.2.2.2.2.2.2.2.2.2.2.2.2.2.2.2.2.2.2.2.2.2.2.2.2.2.2.2.2.2.2.2.2.2.2.2.2.2.2.1
noncomputable def y_hs (x : TT) : List Value := x.2.2.2.2.2.2.2.2.2.2.2.2.2.2.2.2.2.2.2.2.2.2.2.2.2.2.2.2.2.2.2.2.2.2.2.2.2.2.2.2.2.2.2.2.2.2.2.2.2.2.2.2.2.2.2.2.1
noncomputable def y_ws (x : TT) : List Value := x.2.2.2.2.2.2.2.2.2.2.2.2.2.2.2.2.2.2.2.2.2.2.2.2.2.2.2.2.2.2.2.2.2.2.2.2.2.2.2.2.2.2.2.2.2.2.2.2.2.2.2.2.2.2.2.2.2.1
noncomputable def y_held (x : TT) : List Int := x.2.2.2.2.2.2.2.2.2.2.2.2.2.2.2.2.2.2.2.2.2.2.2.2.2.2.2.2.2.2.2.2.2.2.2.2.2.2.2.2.2.2.2.2.2.2.2.2.2.2.2.2.2.2.2.2.2.2.1
noncomputable def y_rows (x : TT) : List (Int × Int) := x.2.2.2.2.2.2.2.2.2.2.2.2.2.2.2.2.2.2.2.2.2.2.2.2.2.2.2.2.2.2.2.2.2.2.2.2.2.2.2.2.2.2.2.2.2.2.2.2.2.2.2.2.2.2.2.2.2.2.2.1
noncomputable def y_oc (x : TT) : Obj := x.2.2.2.2.2.2.2.2.2.2.2.2.2.2.2.2.2.2.2.2.2.2.2.2.2.2.2.2.2.2.2.2.2.2.2.2.2.2.2.2.2.2.2.2.2.2.2.2.2.2.2.2.2.2.2.2.2.2.2.2.1
noncomputable def y_TT (x : TT) : List (Addr × Obj) := x.2.2.2.2.2.2.2.2.2.2.2.2.2.2.2.2.2.2.2.2.2.2.2.2.2.2.2.2.2.2.2.2.2.2.2.2.2.2.2.2.2.2.2.2.2.2.2.2.2.2.2.2.2.2.2.2.2.2.2.2.2.1
noncomputable def y_z (x : TT) : Nat := x.2.2.2.2.2.2.2.2.2.2.2.2.2.2.2.2.2.2.2.2.2.2.2.2.2.2.2.2.2.2.2.2.2.2.2.2.2.2.2.2.2.2.2.2.2.2.2.2.2.2.2.2.2.2.2.2.2.2.2.2.2.2.1
noncomputable def y_fr (x : TT) : List (Addr × Obj) := x.2.2.2.2.2.2.2.2.2.2.2.2.2.2.2.2.2.2.2.2.2.2.2.2.2.2.2.2.2.2.2.2.2.2.2.2.2.2.2.2.2.2.2.2.2.2.2.2.2.2.2.2.2.2.2.2.2.2.2.2.2.2.2.1
noncomputable def y_st (x : TT) : St := x.2.2.2.2.2.2.2.2.2.2.2.2.2.2.2.2.2.2.2.2.2.2.2.2.2.2.2.2.2.2.2.2.2.2.2.2.2.2.2.2.2.2.2.2.2.2.2.2.2.2.2.2.2.2.2.2.2.2.2.2.2.2.2.2.1
noncomputable def y_word (x : TT) : Str := x.2.2.2.2.2.2.2.2.2.2.2.2.2.2.2.2.2.2.2.2.2.2.2.2.2.2.2.2.2.2.2.2.2.2.2.2.2.2.2.2.2.2.2.2.2.2.2.2.2.2.2.2.2.2.2.2.2.2.2.2.2.2.2.2.2.1
noncomputable def y_pl (x : TT) : Addr := x.2.2.2.2.2.2.2.2.2.2.2.2.2.2.2.2.2.2.2.2.2.2.2.2.2.2.2.2.2.2.2.2.2.2.2.2.2.2.2.2.2.2.2.2.2.2.2.2.2.2.2.2.2.2.2.2.2.2.2.2.2.2.2.2.2.2.1
noncomputable def y_tc (x : TT) : Tok := x.2.2.2.2.2.2.2.2.2.2.2.2.2.2.2.2.2.2.2.2.2.2.2.2.2.2.2.2.2.2.2.2.2.2.2.2.2.2.2.2.2.2.2.2.2.2.2.2.2.2.2.2.2.2.2.2.2.2.2.2.2.2.2.2.2.2.2.1
noncomputable def y_c (x : TT) : Int := x.2.2.2.2.2.2.2.2.2.2.2.2.2.2.2.2.2.2.2.2.2.2.2.2.2.2.2.2.2.2.2.2.2.2.2.2.2.2.2.2.2.2.2.2.2.2.2.2.2.2.2.2.2.2.2.2.2.2.2.2.2.2.2.2.2.2.2.2.1
noncomputable def y_gl_ (x : TT) : Value := x.2.2.2.2.2.2.2.2.2.2.2.2.2.2.2.2.2.2.2.2.2.2.2.2.2.2.2.2.2.2.2.2.2.2.2.2.2.2.2.2.2.2.2.2.2.2.2.2.2.2.2.2.2.2.2.2.2.2.2.2.2.2.2.2.2.2.2.2.2.1
noncomputable def y_ng (x : TT) : Nat := x.2.2.2.2.2.2.2.2.2.2.2.2.2.2.2.2.2.2.2.2.2.2.2.2.2.2.2.2.2.2.2.2.2.2.2.2.2.2.2.2.2.2.2.2.2.2.2.2.2.2.2.2.2.2.2.2.2.2.2.2.2.2.2.2.2.2.2.2.2.2.1
noncomputable def y_gs (x : TT) : List Value := x.2.2.2.2.2.2.2.2.2.2.2.2.2.2.2.2.2.2.2.2.2.2.2.2.2.2.2.2.2.2.2.2.2.2.2.2.2.2.2.2.2.2.2.2.2.2.2.2.2.2.2.2.2.2.2.2.2.2.2.2.2.2.2.2.2.2.2.2.2.2.2.1
noncomputable def y_pv (x : TT) : Value := x.2.2.2.2.2.2.2.2.2.2.2.2.2.2.2.2.2.2.2.2.2.2.2.2.2.2.2.2.2.2.2.2.2.2.2.2.2.2.2.2.2.2.2.2.2.2.2.2.2.2.2.2.2.2.2.2.2.2.2.2.2.2.2.2.2.2.2.2.2.2.2.2.1
noncomputable def y_to (x : TT) : Tok := x.2.2.2.2.2.2.2.2.2.2.2.2.2.2.2.2.2.2.2.2.2.2.2.2.2.2.2.2.2.2.2.2.2.2.2.2.2.2.2.2.2.2.2.2.2.2.2.2.2.2.2.2.2.2.2.2.2.2.2.2.2.2.2.2.2.2.2.2.2.2.2.2.2.1
noncomputable def y_o (x : TT) : Int := x.2.2.2.2.2.2.2.2.2.2.2.2.2.2.2.2.2.2.2.2.2.2.2.2.2.2.2.2.2.2.2.2.2.2.2.2.2.2.2.2.2.2.2.2.2.2.2.2.2.2.2.2.2.2.2.2.2.2.2.2.2.2.2.2.2.2.2.2.2.2.2.2.2.2.1
noncomputable def y_b (x : TT) : Bool := x.2.2.2.2.2.2.2.2.2.2.2.2.2.2.2.2.2.2.2.2.2.2.2.2.2.2.2.2.2.2.2.2.2.2.2.2.2.2.2.2.2.2.2.2.2.2.2.2.2.2.2.2.2.2.2.2.2.2.2.2.2.2.2.2.2.2.2.2.2.2.2.2.2.2.2.1
noncomputable def y_out (x : TT) : List Int := x.2.2.2.2.2.2.2.2.2.2.2.2.2.2.2.2.2.2.2.2.2.2.2.2.2.2.2.2.2.2.2.2.2.2.2.2.2.2.2.2.2.2.2.2.2.2.2.2.2.2.2.2.2.2.2.2.2.2.2.2.2.2.2.2.2.2.2.2.2.2.2.2.2.2.2.2.1
noncomputable def y_tx (x : TT) : Str := x.2.2.2.2.2.2.2.2.2.2.2.2.2.2.2.2.2.2.2.2.2.2.2.2.2.2.2.2.2.2.2.2.2.2.2.2.2.2.2.2.2.2.2.2.2.2.2.2.2.2.2.2.2.2.2.2.2.2.2.2.2.2.2.2.2.2.2.2.2.2.2.2.2.2.2.2.2.1
noncomputable def y_G (x : TT) : List (Addr × Obj) := x.2.2.2.2.2.2.2.2.2.2.2.2.2.2.2.2.2.2.2.2.2.2.2.2.2.2.2.2.2.2.2.2.2.2.2.2.2.2.2.2.2.2.2.2.2.2.2.2.2.2.2.2.2.2.2.2.2.2.2.2.2.2.2.2.2.2.2.2.2.2.2.2.2.2.2.2.2.2.1
noncomputable def y_al_ (x : TT) : Addr := x.2.2.2.2.2.2.2.2.2.2.2.2.2.2.2.2.2.2.2.2.2.2.2.2.2.2.2.2.2.2.2.2.2.2.2.2.2.2.2.2.2.2.2.2.2.2.2.2.2.2.2.2.2.2.2.2.2.2.2.2.2.2.2.2.2.2.2.2.2.2.2.2.2.2.2.2.2.2.2.1
noncomputable def y_na (x : TT) : Nat := x.2.2.2.2.2.2.2.2.2.2.2.2.2.2.2.2.2.2.2.2.2.2.2.2.2.2.2.2.2.2.2.2.2.2.2.2.2.2.2.2.2.2.2.2.2.2.2.2.2.2.2.2.2.2.2.2.2.2.2.2.2.2.2.2.2.2.2.2.2.2.2.2.2.2.2.2.2.2.2.2.1
noncomputable def y_as (x : TT) : List Value := x.2.2.2.2.2.2.2.2.2.2.2.2.2.2.2.2.2.2.2.2.2.2.2.2.2.2.2.2.2.2.2.2.2.2.2.2.2.2.2.2.2.2.2.2.2.2.2.2.2.2.2.2.2.2.2.2.2.2.2.2.2.2.2.2.2.2.2.2.2.2.2.2.2.2.2.2.2.2.2.2.2.1
noncomputable def y_st' (x : TT) : St := x.2.2.2.2.2.2.2.2.2.2.2.2.2.2.2.2.2.2.2.2.2.2.2.2.2.2.2.2.2.2.2.2.2.2.2.2.2.2.2.2.2.2.2.2.2.2.2.2.2.2.2.2.2.2.2.2.2.2.2.2.2.2.2.2.2.2.2.2.2.2.2.2.2.2.2.2.2.2.2.2.2.2.1
noncomputable def y_asl (x : TT) : List Int := x.2.2.2.2.2.2.2.2.2.2.2.2.2.2.2.2.2.2.2.2.2.2.2.2.2.2.2.2.2.2.2.2.2.2.2.2.2.2.2.2.2.2.2.2.2.2.2.2.2.2.2.2.2.2.2.2.2.2.2.2.2.2.2.2.2.2.2.2.2.2.2.2.2.2.2.2.2.2.2.2.2.2.2.1
noncomputable def y_st2 (x : TT) : St := x.2.2.2.2.2.2.2.2.2.2.2.2.2.2.2.2.2.2.2.2.2.2.2.2.2.2.2.2.2.2.2.2.2.2.2.2.2.2.2.2.2.2.2.2.2.2.2.2.2.2.2.2.2.2.2.2.2.2.2.2.2.2.2.2.2.2.2.2.2.2.2.2.2.2.2.2.2.2.2.2.2.2.2.2.1
noncomputable def y_D (x : TT) : List (Addr × Obj) := x.2.2.2.2.2.2.2.2.2.2.2.2.2.2.2.2.2.2.2.2.2.2.2.2.2.2.2.2.2.2.2.2.2.2.2.2.2.2.2.2.2.2.2.2.2.2.2.2.2.2.2.2.2.2.2.2.2.2.2.2.2.2.2.2.2.2.2.2.2.2.2.2.2.2.2.2.2.2.2.2.2.2.2.2.2.1
noncomputable def y_l (x : TT) : Addr := x.2.2.2.2.2.2.2.2.2.2.2.2.2.2.2.2.2.2.2.2.2.2.2.2.2.2.2.2.2.2.2.2.2.2.2.2.2.2.2.2.2.2.2.2.2.2.2.2.2.2.2.2.2.2.2.2.2.2.2.2.2.2.2.2.2.2.2.2.2.2.2.2.2.2.2.2.2.2.2.2.2.2.2.2.2.2.1
noncomputable def y_pre (x : TT) : List (Int × Int) := x.2.2.2.2.2.2.2.2.2.2.2.2.2.2.2.2.2.2.2.2.2.2.2.2.2.2.2.2.2.2.2.2.2.2.2.2.2.2.2.2.2.2.2.2.2.2.2.2.2.2.2.2.2.2.2.2.2.2.2.2.2.2.2.2.2.2.2.2.2.2.2.2.2.2.2.2.2.2.2.2.2.2.2.2.2.2.2.1
noncomputable def y_post (x : TT) : List (Int × Int) := x.2.2.2.2.2.2.2.2.2.2.2.2.2.2.2.2.2.2.2.2.2.2.2.2.2.2.2.2.2.2.2.2.2.2.2.2.2.2.2.2.2.2.2.2.2.2.2.2.2.2.2.2.2.2.2.2.2.2.2.2.2.2.2.2.2.2.2.2.2.2.2.2.2.2.2.2.2.2.2.2.2.2.2.2.2.2.2.2.1
noncomputable def y_qs (x : TT) : List Int := x.2.2.2.2.2.2.2.2.2.2.2.2.2.2.2.2.2.2.2.2.2.2.2.2.2.2.2.2.2.2.2.2.2.2.2.2.2.2.2.2.2.2.2.2.2.2.2.2.2.2.2.2.2.2.2.2.2.2.2.2.2.2.2.2.2.2.2.2.2.2.2.2.2.2.2.2.2.2.2.2.2.2.2.2.2.2.2.2.2.1
noncomputable def y_tr (x : TT) : Tok := x.2.2.2.2.2.2.2.2.2.2.2.2.2.2.2.2.2.2.2.2.2.2.2.2.2.2.2.2.2.2.2.2.2.2.2.2.2.2.2.2.2.2.2.2.2.2.2.2.2.2.2.2.2.2.2.2.2.2.2.2.2.2.2.2.2.2.2.2.2.2.2.2.2.2.2.2.2.2.2.2.2.2.2.2.2.2.2.2.2.2.1
noncomputable def y_asl1 (x : TT) : List Int := x.2.2.2.2.2.2.2.2.2.2.2.2.2.2.2.2.2.2.2.2.2.2.2.2.2.2.2.2.2.2.2.2.2.2.2.2.2.2.2.2.2.2.2.2.2.2.2.2.2.2.2.2.2.2.2.2.2.2.2.2.2.2.2.2.2.2.2.2.2.2.2.2.2.2.2.2.2.2.2.2.2.2.2.2.2.2.2.2.2.2.2.1
noncomputable def y_st1 (x : TT) : St := x.2.2.2.2.2.2.2.2.2.2.2.2.2.2.2.2.2.2.2.2.2.2.2.2.2.2.2.2.2.2.2.2.2.2.2.2.2.2.2.2.2.2.2.2.2.2.2.2.2.2.2.2.2.2.2.2.2.2.2.2.2.2.2.2.2.2.2.2.2.2.2.2.2.2.2.2.2.2.2.2.2.2.2.2.2.2.2.2.2.2.2.2.1
noncomputable def y_K (x : TT) : List (Addr × Obj) := x.2.2.2.2.2.2.2.2.2.2.2.2.2.2.2.2.2.2.2.2.2.2.2.2.2.2.2.2.2.2.2.2.2.2.2.2.2.2.2.2.2.2.2.2.2.2.2.2.2.2.2.2.2.2.2.2.2.2.2.2.2.2.2.2.2.2.2.2.2.2.2.2.2.2.2.2.2.2.2.2.2.2.2.2.2.2.2.2.2.2.2.2.2.1
noncomputable def y_ps (x : TT) : Array Value := x.2.2.2.2.2.2.2.2.2.2.2.2.2.2.2.2.2.2.2.2.2.2.2.2.2.2.2.2.2.2.2.2.2.2.2.2.2.2.2.2.2.2.2.2.2.2.2.2.2.2.2.2.2.2.2.2.2.2.2.2.2.2.2.2.2.2.2.2.2.2.2.2.2.2.2.2.2.2.2.2.2.2.2.2.2.2.2.2.2.2.2.2.2.2.1
noncomputable def y_i (x : TT) : Int := x.2.2.2.2.2.2.2.2.2.2.2.2.2.2.2.2.2.2.2.2.2.2.2.2.2.2.2.2.2.2.2.2.2.2.2.2.2.2.2.2.2.2.2.2.2.2.2.2.2.2.2.2.2.2.2.2.2.2.2.2.2.2.2.2.2.2.2.2.2.2.2.2.2.2.2.2.2.2.2.2.2.2.2.2.2.2.2.2.2.2.2.2.2.2.2.1
noncomputable def y_j (x : TT) : Int := x.2.2.2.2.2.2.2.2.2.2.2.2.2.2.2.2.2.2.2.2.2.2.2.2.2.2.2.2.2.2.2.2.2.2.2.2.2.2.2.2.2.2.2.2.2.2.2.2.2.2.2.2.2.2.2.2.2.2.2.2.2.2.2.2.2.2.2.2.2.2.2.2.2.2.2.2.2.2.2.2.2.2.2.2.2.2.2.2.2.2.2.2.2.2.2.2.1
noncomputable def y_tb (x : TT) : Tok := x.2.2.2.2.2.2.2.2.2.2.2.2.2.2.2.2.2.2.2.2.2.2.2.2.2.2.2.2.2.2.2.2.2.2.2.2.2.2.2.2.2.2.2.2.2.2.2.2.2.2.2.2.2.2.2.2.2.2.2.2.2.2.2.2.2.2.2.2.2.2.2.2.2.2.2.2.2.2.2.2.2.2.2.2.2.2.2.2.2.2.2.2.2.2.2.2.2.1
noncomputable def y_r (x : TT) : Int := x.2.2.2.2.2.2.2.2.2.2.2.2.2.2.2.2.2.2.2.2.2.2.2.2.2.2.2.2.2.2.2.2.2.2.2.2.2.2.2.2.2.2.2.2.2.2.2.2.2.2.2.2.2.2.2.2.2.2.2.2.2.2.2.2.2.2.2.2.2.2.2.2.2.2.2.2.2.2.2.2.2.2.2.2.2.2.2.2.2.2.2.2.2.2.2.2.2.2.1
noncomputable def y_us (x : TT) : List Value := x.2.2.2.2.2.2.2.2.2.2.2.2.2.2.2.2.2.2.2.2.2.2.2.2.2.2.2.2.2.2.2.2.2.2.2.2.2.2.2.2.2.2.2.2.2.2.2.2.2.2.2.2.2.2.2.2.2.2.2.2.2.2.2.2.2.2.2.2.2.2.2.2.2.2.2.2.2.2.2.2.2.2.2.2.2.2.2.2.2.2.2.2.2.2.2.2.2.2.2.1
noncomputable def y_q_ (x : TT) : Int := x.2.2.2.2.2.2.2.2.2.2.2.2.2.2.2.2.2.2.2.2.2.2.2.2.2.2.2.2.2.2.2.2.2.2.2.2.2.2.2.2.2.2.2.2.2.2.2.2.2.2.2.2.2.2.2.2.2.2.2.2.2.2.2.2.2.2.2.2.2.2.2.2.2.2.2.2.2.2.2.2.2.2.2.2.2.2.2.2.2.2.2.2.2.2.2.2.2.2.2.2.1
noncomputable def y_r0 (x : TT) : Int := x.2.2.2.2.2.2.2.2.2.2.2.2.2.2.2.2.2.2.2.2.2.2.2.2.2.2.2.2.2.2.2.2.2.2.2.2.2.2.2.2.2.2.2.2.2.2.2.2.2.2.2.2.2.2.2.2.2.2.2.2.2.2.2.2.2.2.2.2.2.2.2.2.2.2.2.2.2.2.2.2.2.2.2.2.2.2.2.2.2.2.2.2.2.2.2.2.2.2.2.2.2.1
noncomputable def y_us0 (x : TT) : List Value := x.2.2.2.2.2.2.2.2.2.2.2.2.2.2.2.2.2.2.2.2.2.2.2.2.2.2.2.2.2.2.2.2.2.2.2.2.2.2.2.2.2.2.2.2.2.2.2.2.2.2.2.2.2.2.2.2.2.2.2.2.2.2.2.2.2.2.2.2.2.2.2.2.2.2.2.2.2.2.2.2.2.2.2.2.2.2.2.2.2.2.2.2.2.2.2.2.2.2.2.2.2.2.1
noncomputable def y_xs (x : TT) : List Int := x.2.2.2.2.2.2.2.2.2.2.2.2.2.2.2.2.2.2.2.2.2.2.2.2.2.2.2.2.2.2.2.2.2.2.2.2.2.2.2.2.2.2.2.2.2.2.2.2.2.2.2.2.2.2.2.2.2.2.2.2.2.2.2.2.2.2.2.2.2.2.2.2.2.2.2.2.2.2.2.2.2.2.2.2.2.2.2.2.2.2.2.2.2.2.2.2.2.2.2.2.2.2.2.1
noncomputable def y_tz (x : TT) : Tok := x.2.2.2.2.2.2.2.2.2.2.2.2.2.2.2.2.2.2.2.2.2.2.2.2.2.2.2.2.2.2.2.2.2.2.2.2.2.2.2.2.2.2.2.2.2.2.2.2.2.2.2.2.2.2.2.2.2.2.2.2.2.2.2.2.2.2.2.2.2.2.2.2.2.2.2.2.2.2.2.2.2.2.2.2.2.2.2.2.2.2.2.2.2.2.2.2.2.2.2.2.2.2.2.2.1
noncomputable def y_top (x : TT) : Int := x.2.2.2.2.2.2.2.2.2.2.2.2.2.2.2.2.2.2.2.2.2.2.2.2.2.2.2.2.2.2.2.2.2.2.2.2.2.2.2.2.2.2.2.2.2.2.2.2.2.2.2.2.2.2.2.2.2.2.2.2.2.2.2.2.2.2.2.2.2.2.2.2.2.2.2.2.2.2.2.2.2.2.2.2.2.2.2.2.2.2.2.2.2.2.2.2.2.2.2.2.2.2.2.2.2.1
noncomputable def y_tt (x : TT) : Tok := x.2.2.2.2.2.2.2.2.2.2.2.2.2.2.2.2.2.2.2.2.2.2.2.2.2.2.2.2.2.2.2.2.2.2.2.2.2.2.2.2.2.2.2.2.2.2.2.2.2.2.2.2.2.2.2.2.2.2.2.2.2.2.2.2.2.2.2.2.2.2.2.2.2.2.2.2.2.2.2.2.2.2.2.2.2.2.2.2.2.2.2.2.2.2.2.2.2.2.2.2.2.2.2.2.2.2.1
noncomputable def y_t (x : TT) : Addr := x.2.2.2.2.2.2.2.2.2.2.2.2.2.2.2.2.2.2.2.2.2.2.2.2.2.2.2.2.2.2.2.2.2.2.2.2.2.2.2.2.2.2.2.2.2.2.2.2.2.2.2.2.2.2.2.2.2.2.2.2.2.2.2.2.2.2.2.2.2.2.2.2.2.2.2.2.2.2.2.2.2.2.2.2.2.2.2.2.2.2.2.2.2.2.2.2.2.2.2.2.2.2.2.2.2.2.2.1
noncomputable def y_n2 (x : TT) : Nat := x.2.2.2.2.2.2.2.2.2.2.2.2.2.2.2.2.2.2.2.2.2.2.2.2.2.2.2.2.2.2.2.2.2.2.2.2.2.2.2.2.2.2.2.2.2.2.2.2.2.2.2.2.2.2.2.2.2.2.2.2.2.2.2.2.2.2.2.2.2.2.2.2.2.2.2.2.2.2.2.2.2.2.2.2.2.2.2.2.2.2.2.2.2.2.2.2.2.2.2.2.2.2.2.2.2.2.2.2
def P_lock_free_S (prog : Program) (w : World) (p : Program) (loose : List Str) (mean : ExcName → Option Value) (mg mb : Str → Option Value) (dp un : Nat) (gd : Option (List Code)) (cn : Str) (cs : Scope) (a : Addr) (ccd : Value) (cl : List (Str × Addr)) (outer : List Env) (A₀ : Around) (base h₀ : Heap) (L : Addr) (m : Str → Option Value) (s : Shared) (Q E : Value → Shared → Prop) (tl : List (Addr × Obj)) (pg pd hl dc wl pl : Addr) (tg t4 t5 t6 : Tok) (nt n1 n3 : Nat) (cnt : Int → Int) (hs ws : List Value) (held : List Int) (rows : List (Int × Int)) (g k : Int) (oc : Obj) (TT : List (Addr × Obj)) : Prop := ∀ (B : Below A₀ base outer h₀) (F : Fr h₀ L s.heap m) (X : (heapK w.params).In h₀) (T : Top p loose mean mg mb h₀) (hk : cs.kind = .function) (N : News h₀ L s.heap ((pg, instObj 124 pd) :: (pd, pgD w.params t4 t5 t6 hl dc wl) :: (hl, listOf hs.toArray n1) :: (dc, oc) :: (wl, listOf ws.toArray n3) :: tl)) (hpl : LRead TT (.ref pl) (enc1 k)) (hhs : LReads TT hs (held.map enc1)) (hws : RowsIn enc1 TT ws rows) (hoc : TabO prog w enc1I TT oc nt cnt) (hT : ∀ p ∈ TT, p ∈ tl) (lo : (dc == sysModules) = false) (hnd : [pg, pd, hl, dc, wl].Nodup) (s1 : ∀ p ∈ tl, p.1 ≠ hl) (s2 : ∀ p ∈ tl, p.1 ≠ wl) (s3 : ∀ p ∈ tl, p.1 ≠ dc) (s4 : ∀ p ∈ tl, p.1 ≠ pd) (hlen : hs.length ≤ 200) (hlen2 : ws.length ≤ 200) (hnt : nt ≤ 200) (hmem : held.contains k = false) (hdp : dp + 12 < recursionLimit) (hun : un + 80 < cLine) (ret : ∀ h' tk' , Fr h₀ L h' m → News h₀ L h' ((pg, instObj 124 pd) :: (pd, pgD w.params t4 t5 t6 hl dc wl) :: (hl, listOf (hs ++ [Value.ref pl]).toArray (n1 + 1)) :: (dc, oc) :: (wl, listOf ws.toArray n3) :: tl) → LReads TT (hs ++ [Value.ref pl]) (List.map enc1 (held ++ [k])) → Q (.bool true) { s with heap := h', toks := tk' }),
    wpAny (model prog w) (ktrTop dp un gd cn cs L a ccd cl outer) (call (.ref 102) [.ref pg, .ref pl, .int g tg]) Q E s
def P_lock_free_P : TT → Prop := fun x => P_lock_free_S (y_prog x) (y_w x) (y_p x) (y_loose x) (y_mean x) (y_mg x) (y_mb x) (y_dp x) (y_un x) (y_gd x) (y_cn x) (y_cs x) (y_a x) (y_ccd x) (y_cl x) (y_outer x) (y_A₀ x) (y_base x) (y_h₀ x) (y_L x) (y_m x) (y_s x) (y_Q x) (y_E x) (y_tl x) (y_pg x) (y_pd x) (y_hl x) (y_dc x) (y_wl x) (y_pl x) (y_tg x) (y_t4 x) (y_t5 x) (y_t6 x) (y_nt x) (y_n1 x) (y_n3 x) (y_cnt x) (y_hs x) (y_ws x) (y_held x) (y_rows x) (y_g x) (y_k x) (y_oc x) (y_TT x)
def P_lock_held_S (prog : Program) (w : World) (p : Program) (loose : List Str) (mean : ExcName → Option Value) (mg mb : Str → Option Value) (dp un : Nat) (gd : Option (List Code)) (cn : Str) (cs : Scope) (a : Addr) (ccd : Value) (cl : List (Str × Addr)) (outer : List Env) (A₀ : Around) (base h₀ : Heap) (L : Addr) (m : Str → Option Value) (s : Shared) (Q E : Value → Shared → Prop) (tl : List (Addr × Obj)) (pg pd hl dc wl pl : Addr) (tg t4 t5 t6 : Tok) (nt n1 n3 : Nat) (cnt : Int → Int) (hs ws : List Value) (held : List Int) (rows : List (Int × Int)) (g k : Int) (oc : Obj) (TT : List (Addr × Obj)) : Prop := ∀ (B : Below A₀ base outer h₀) (F : Fr h₀ L s.heap m) (X : (heapK w.params).In h₀) (T : Top p loose mean mg mb h₀) (hk : cs.kind = .function) (N : News h₀ L s.heap ((pg, instObj 124 pd) :: (pd, pgD w.params t4 t5 t6 hl dc wl) :: (hl, listOf hs.toArray n1) :: (dc, oc) :: (wl, listOf ws.toArray n3) :: tl)) (hpl : LRead TT (.ref pl) (enc1 k)) (hhs : LReads TT hs (held.map enc1)) (hws : RowsIn enc1 TT ws rows) (hoc : TabO prog w enc1I TT oc nt cnt) (hT : ∀ p ∈ TT, p ∈ tl) (lo : (dc == sysModules) = false) (hnd : [pg, pd, hl, dc, wl].Nodup) (s1 : ∀ p ∈ tl, p.1 ≠ hl) (s2 : ∀ p ∈ tl, p.1 ≠ wl) (s3 : ∀ p ∈ tl, p.1 ≠ dc) (s4 : ∀ p ∈ tl, p.1 ≠ pd) (hlen : hs.length ≤ 200) (hlen2 : ws.length ≤ 200) (hnt : nt ≤ 200) (hmem : held.contains k = true) (hdp : dp + 12 < recursionLimit) (hun : un + 80 < cLine) (ret : ∀ h' tk' R, Fr h₀ L h' m → News h₀ L h' ((R, { cls := .type "tuple", data := .seq #[.ref pl, .int g tg] }) :: (pg, instObj 124 pd) :: (pd, pgD w.params t4 t5 t6 hl dc wl) :: (hl, listOf hs.toArray n1) :: (dc, oc) :: (wl, listOf (ws ++ [Value.ref R]).toArray (n3 + 1)) :: tl) → (∀ q ∈ ((pg, instObj 124 pd) :: (pd, pgD w.params t4 t5 t6 hl dc wl) :: (hl, listOf hs.toArray n1) :: (dc, oc) :: (wl, listOf ws.toArray n3) :: tl), q.1 ≠ R) → RowsIn enc1 ((R, { cls := .type "tuple", data := .seq #[.ref pl, .int g tg] }) :: TT) (ws ++ [Value.ref R]) (rows ++ [(k, g)]) → Q (.bool false) { s with heap := h', toks := tk' }),
    wpAny (model prog w) (ktrTop dp un gd cn cs L a ccd cl outer) (call (.ref 102) [.ref pg, .ref pl, .int g tg]) Q E s
def P_lock_held_P : TT → Prop := fun x => P_lock_held_S (y_prog x) (y_w x) (y_p x) (y_loose x) (y_mean x) (y_mg x) (y_mb x) (y_dp x) (y_un x) (y_gd x) (y_cn x) (y_cs x) (y_a x) (y_ccd x) (y_cl x) (y_outer x) (y_A₀ x) (y_base x) (y_h₀ x) (y_L x) (y_m x) (y_s x) (y_Q x) (y_E x) (y_tl x) (y_pg x) (y_pd x) (y_hl x) (y_dc x) (y_wl x) (y_pl x) (y_tg x) (y_t4 x) (y_t5 x) (y_t6 x) (y_nt x) (y_n1 x) (y_n3 x) (y_cnt x) (y_hs x) (y_ws x) (y_held x) (y_rows x) (y_g x) (y_k x) (y_oc x) (y_TT x)
def P_wait_zero_S (prog : Program) (w : World) (p : Program) (loose : List Str) (mean : ExcName → Option Value) (mg mb : Str → Option Value) (dp un : Nat) (gd : Option (List Code)) (cn : Str) (cs : Scope) (a : Addr) (ccd : Value) (cl : List (Str × Addr)) (outer : List Env) (A₀ : Around) (base h₀ : Heap) (L : Addr) (m : Str → Option Value) (s : Shared) (Q E : Value → Shared → Prop) (tl : List (Addr × Obj)) (pg pd hl dc wl pl : Addr) (tg t4 t5 t6 : Tok) (nt n1 n3 : Nat) (cnt : Int → Int) (hs ws : List Value) (held : List Int) (rows : List (Int × Int)) (g k : Int) (oc : Obj) (TT : List (Addr × Obj)) : Prop := ∀ (B : Below A₀ base outer h₀) (F : Fr h₀ L s.heap m) (X : (heapK w.params).In h₀) (T : Top p loose mean mg mb h₀) (hk : cs.kind = .function) (N : News h₀ L s.heap ((pg, instObj 124 pd) :: (pd, pgD w.params t4 t5 t6 hl dc wl) :: (hl, listOf hs.toArray n1) :: (dc, oc) :: (wl, listOf ws.toArray n3) :: tl)) (hpl : LRead TT (.ref pl) (enc1 k)) (hhs : LReads TT hs (held.map enc1)) (hws : RowsIn enc1 TT ws rows) (hoc : TabO prog w enc1I TT oc nt cnt) (hT : ∀ p ∈ TT, p ∈ tl) (lo : (dc == sysModules) = false) (hnd : [pg, pd, hl, dc, wl].Nodup) (s1 : ∀ p ∈ tl, p.1 ≠ hl) (s2 : ∀ p ∈ tl, p.1 ≠ wl) (s3 : ∀ p ∈ tl, p.1 ≠ dc) (s4 : ∀ p ∈ tl, p.1 ≠ pd) (hlen : hs.length ≤ 200) (hlen2 : ws.length ≤ 200) (hnt : nt ≤ 200) (hz : cnt k = 0) (hdp : dp + 12 < recursionLimit) (hun : un + 80 < cLine) (ret : ∀ h' tk' , Fr h₀ L h' m → News h₀ L h' ((pg, instObj 124 pd) :: (pd, pgD w.params t4 t5 t6 hl dc wl) :: (hl, listOf hs.toArray n1) :: (dc, oc) :: (wl, listOf ws.toArray n3) :: tl) → Q (.bool true) { s with heap := h', toks := tk' }),
    wpAny (model prog w) (ktrTop dp un gd cn cs L a ccd cl outer) (call (.ref 121) [.ref pg, .ref pl, .int g tg]) Q E s
def P_wait_zero_P : TT → Prop := fun x => P_wait_zero_S (y_prog x) (y_w x) (y_p x) (y_loose x) (y_mean x) (y_mg x) (y_mb x) (y_dp x) (y_un x) (y_gd x) (y_cn x) (y_cs x) (y_a x) (y_ccd x) (y_cl x) (y_outer x) (y_A₀ x) (y_base x) (y_h₀ x) (y_L x) (y_m x) (y_s x) (y_Q x) (y_E x) (y_tl x) (y_pg x) (y_pd x) (y_hl x) (y_dc x) (y_wl x) (y_pl x) (y_tg x) (y_t4 x) (y_t5 x) (y_t6 x) (y_nt x) (y_n1 x) (y_n3 x) (y_cnt x) (y_hs x) (y_ws x) (y_held x) (y_rows x) (y_g x) (y_k x) (y_oc x) (y_TT x)
def P_wait_non_S (prog : Program) (w : World) (p : Program) (loose : List Str) (mean : ExcName → Option Value) (mg mb : Str → Option Value) (dp un : Nat) (gd : Option (List Code)) (cn : Str) (cs : Scope) (a : Addr) (ccd : Value) (cl : List (Str × Addr)) (outer : List Env) (A₀ : Around) (base h₀ : Heap) (L : Addr) (m : Str → Option Value) (s : Shared) (Q E : Value → Shared → Prop) (tl : List (Addr × Obj)) (pg pd hl dc wl pl : Addr) (tg t4 t5 t6 : Tok) (nt n1 n3 : Nat) (cnt : Int → Int) (hs ws : List Value) (held : List Int) (rows : List (Int × Int)) (g k : Int) (oc : Obj) (TT : List (Addr × Obj)) : Prop := ∀ (B : Below A₀ base outer h₀) (F : Fr h₀ L s.heap m) (X : (heapK w.params).In h₀) (T : Top p loose mean mg mb h₀) (hk : cs.kind = .function) (N : News h₀ L s.heap ((pg, instObj 124 pd) :: (pd, pgD w.params t4 t5 t6 hl dc wl) :: (hl, listOf hs.toArray n1) :: (dc, oc) :: (wl, listOf ws.toArray n3) :: tl)) (hpl : LRead TT (.ref pl) (enc1 k)) (hhs : LReads TT hs (held.map enc1)) (hws : RowsIn enc1 TT ws rows) (hoc : TabO prog w enc1I TT oc nt cnt) (hT : ∀ p ∈ TT, p ∈ tl) (lo : (dc == sysModules) = false) (hnd : [pg, pd, hl, dc, wl].Nodup) (s1 : ∀ p ∈ tl, p.1 ≠ hl) (s2 : ∀ p ∈ tl, p.1 ≠ wl) (s3 : ∀ p ∈ tl, p.1 ≠ dc) (s4 : ∀ p ∈ tl, p.1 ≠ pd) (hlen : hs.length ≤ 200) (hlen2 : ws.length ≤ 200) (hnt : nt ≤ 200) (hz : ¬ cnt k = 0) (hdp : dp + 12 < recursionLimit) (hun : un + 80 < cLine) (ret : ∀ h' tk' R, Fr h₀ L h' m → News h₀ L h' ((R, { cls := .type "tuple", data := .seq #[.ref pl, .int g tg] }) :: (pg, instObj 124 pd) :: (pd, pgD w.params t4 t5 t6 hl dc wl) :: (hl, listOf hs.toArray n1) :: (dc, oc) :: (wl, listOf (ws ++ [Value.ref R]).toArray (n3 + 1)) :: tl) → (∀ q ∈ ((pg, instObj 124 pd) :: (pd, pgD w.params t4 t5 t6 hl dc wl) :: (hl, listOf hs.toArray n1) :: (dc, oc) :: (wl, listOf ws.toArray n3) :: tl), q.1 ≠ R) → RowsIn enc1 ((R, { cls := .type "tuple", data := .seq #[.ref pl, .int g tg] }) :: TT) (ws ++ [Value.ref R]) (rows ++ [(k, g)]) → Q (.bool false) { s with heap := h', toks := tk' }),
    wpAny (model prog w) (ktrTop dp un gd cn cs L a ccd cl outer) (call (.ref 121) [.ref pg, .ref pl, .int g tg]) Q E s
def P_wait_non_P : TT → Prop := fun x => P_wait_non_S (y_prog x) (y_w x) (y_p x) (y_loose x) (y_mean x) (y_mg x) (y_mb x) (y_dp x) (y_un x) (y_gd x) (y_cn x) (y_cs x) (y_a x) (y_ccd x) (y_cl x) (y_outer x) (y_A₀ x) (y_base x) (y_h₀ x) (y_L x) (y_m x) (y_s x) (y_Q x) (y_E x) (y_tl x) (y_pg x) (y_pd x) (y_hl x) (y_dc x) (y_wl x) (y_pl x) (y_tg x) (y_t4 x) (y_t5 x) (y_t6 x) (y_nt x) (y_n1 x) (y_n3 x) (y_cnt x) (y_hs x) (y_ws x) (y_held x) (y_rows x) (y_g x) (y_k x) (y_oc x) (y_TT x)
def P_add_neg_S (prog : Program) (w : World) (p : Program) (loose : List Str) (mean : ExcName → Option Value) (mg mb : Str → Option Value) (dp un : Nat) (gd : Option (List Code)) (cn : Str) (cs : Scope) (a : Addr) (ccd : Value) (cl : List (Str × Addr)) (outer : List Env) (A₀ : Around) (base h₀ : Heap) (L : Addr) (m : Str → Option Value) (s : Shared) (Q E : Value → Shared → Prop) (tl : List (Addr × Obj)) (pg pd hl dc wl pl : Addr) (tg t4 t5 t6 : Tok) (nt n1 n3 : Nat) (cnt : Int → Int) (hs ws : List Value) (held : List Int) (rows : List (Int × Int)) (k : Int) (oc : Obj) (TT : List (Addr × Obj)) (many : Int) : Prop := ∀ (B : Below A₀ base outer h₀) (F : Fr h₀ L s.heap m) (X : (heapK w.params).In h₀) (T : Top p loose mean mg mb h₀) (hk : cs.kind = .function) (N : News h₀ L s.heap ((pg, instObj 124 pd) :: (pd, pgD w.params t4 t5 t6 hl dc wl) :: (hl, listOf hs.toArray n1) :: (dc, oc) :: (wl, listOf ws.toArray n3) :: tl)) (hpl : LRead TT (.ref pl) (enc1 k)) (hhs : LReads TT hs (held.map enc1)) (hws : RowsIn enc1 TT ws rows) (hoc : TabO prog w enc1I TT oc nt cnt) (hT : ∀ p ∈ TT, p ∈ tl) (lo : (dc == sysModules) = false) (hnd : [pg, pd, hl, dc, wl].Nodup) (s1 : ∀ p ∈ tl, p.1 ≠ hl) (s2 : ∀ p ∈ tl, p.1 ≠ wl) (s3 : ∀ p ∈ tl, p.1 ≠ dc) (s4 : ∀ p ∈ tl, p.1 ≠ pd) (hlen : hs.length ≤ 200) (hlen2 : ws.length ≤ 200) (hnt : nt ≤ 200) (hz : cnt k + many < 0) (hdp : dp + 12 < recursionLimit) (hun : un + 80 < cLine) (ret : ∀ g' h' tk' e d D ta tb tc va vb u1 u2, Fr h₀ L g' m → RaisedE base g' (envX cn cs L a ccd cl :: outer) e (.ref 71) d ((d, dictOf [tyKey w.params "message" ta va, tyKey w.params "spot" tb vb, tyKey w.params "value" tc (.ref D)] 3) ::
      (D, { cls := .type "tuple", data := .seq #[.str "face" u1, .ref 74, .bytes (asciiB txN) u2] }) :: ((pg, instObj 124 pd) :: (pd, pgD w.params t4 t5 t6 hl dc wl) :: (hl, listOf hs.toArray n1) :: (dc, oc) :: (wl, listOf ws.toArray n3) :: tl)) h' → g'.UpToSlots h' → E (.ref e) { s with heap := h', toks := tk' }),
    wpAny (model prog w) (ktrTop dp un gd cn cs L a ccd cl outer) (call (.ref 114) [.ref pg, .ref pl, .int many tg]) Q E s
def P_add_neg_P : TT → Prop := fun x => P_add_neg_S (y_prog x) (y_w x) (y_p x) (y_loose x) (y_mean x) (y_mg x) (y_mb x) (y_dp x) (y_un x) (y_gd x) (y_cn x) (y_cs x) (y_a x) (y_ccd x) (y_cl x) (y_outer x) (y_A₀ x) (y_base x) (y_h₀ x) (y_L x) (y_m x) (y_s x) (y_Q x) (y_E x) (y_tl x) (y_pg x) (y_pd x) (y_hl x) (y_dc x) (y_wl x) (y_pl x) (y_tg x) (y_t4 x) (y_t5 x) (y_t6 x) (y_nt x) (y_n1 x) (y_n3 x) (y_cnt x) (y_hs x) (y_ws x) (y_held x) (y_rows x) (y_k x) (y_oc x) (y_TT x) (y_many x)
def P_add_pos_S (prog : Program) (w : World) (p : Program) (loose : List Str) (mean : ExcName → Option Value) (mg mb : Str → Option Value) (dp un : Nat) (gd : Option (List Code)) (cn : Str) (cs : Scope) (a : Addr) (ccd : Value) (cl : List (Str × Addr)) (outer : List Env) (A₀ : Around) (base h₀ : Heap) (L : Addr) (m : Str → Option Value) (s : Shared) (Q E : Value → Shared → Prop) (tl : List (Addr × Obj)) (pg pd hl dc wl pl : Addr) (tg t4 t5 t6 : Tok) (nt n1 n3 : Nat) (cnt : Int → Int) (hs ws : List Value) (held : List Int) (rows : List (Int × Int)) (k : Int) (oc : Obj) (TT : List (Addr × Obj)) (many : Int) : Prop := ∀ (B : Below A₀ base outer h₀) (F : Fr h₀ L s.heap m) (X : (heapK w.params).In h₀) (T : Top p loose mean mg mb h₀) (hk : cs.kind = .function) (N : News h₀ L s.heap ((pg, instObj 124 pd) :: (pd, pgD w.params t4 t5 t6 hl dc wl) :: (hl, listOf hs.toArray n1) :: (dc, oc) :: (wl, listOf ws.toArray n3) :: tl)) (hpl : LRead TT (.ref pl) (enc1 k)) (hhs : LReads TT hs (held.map enc1)) (hws : RowsIn enc1 TT ws rows) (hoc : TabO prog w enc1I TT oc nt cnt) (hT : ∀ p ∈ TT, p ∈ tl) (lo : (dc == sysModules) = false) (hnd : [pg, pd, hl, dc, wl].Nodup) (s1 : ∀ p ∈ tl, p.1 ≠ hl) (s2 : ∀ p ∈ tl, p.1 ≠ wl) (s3 : ∀ p ∈ tl, p.1 ≠ dc) (s4 : ∀ p ∈ tl, p.1 ≠ pd) (hlen : hs.length ≤ 200) (hlen2 : ws.length ≤ 200) (hnt : nt ≤ 200) (hz : ¬ cnt k + many < 0) (hz2 : 0 < cnt k + many) (hdp : dp + 12 < recursionLimit) (hun : un + 80 < cLine) (ret : ∀ h' tk' l oc', Fr h₀ L h' m → News h₀ L h' ((l, listOf #[] 0) :: (pg, instObj 124 pd) :: (pd, pgD w.params t4 t5 t6 hl dc wl) :: (hl, listOf hs.toArray n1) :: (dc, oc') :: (wl, listOf ws.toArray n3) :: tl) → TabO prog w enc1I TT oc' (nt + 1) (fun j => if j = k then cnt k + many else cnt j) → (∀ q ∈ ((pg, instObj 124 pd) :: (pd, pgD w.params t4 t5 t6 hl dc wl) :: (hl, listOf hs.toArray n1) :: (dc, oc) :: (wl, listOf ws.toArray n3) :: tl), q.1 ≠ l) → Q (.ref l) { s with heap := h', toks := tk' }),
    wpAny (model prog w) (ktrTop dp un gd cn cs L a ccd cl outer) (call (.ref 114) [.ref pg, .ref pl, .int many tg]) Q E s
def P_add_pos_P : TT → Prop := fun x => P_add_pos_S (y_prog x) (y_w x) (y_p x) (y_loose x) (y_mean x) (y_mg x) (y_mb x) (y_dp x) (y_un x) (y_gd x) (y_cn x) (y_cs x) (y_a x) (y_ccd x) (y_cl x) (y_outer x) (y_A₀ x) (y_base x) (y_h₀ x) (y_L x) (y_m x) (y_s x) (y_Q x) (y_E x) (y_tl x) (y_pg x) (y_pd x) (y_hl x) (y_dc x) (y_wl x) (y_pl x) (y_tg x) (y_t4 x) (y_t5 x) (y_t6 x) (y_nt x) (y_n1 x) (y_n3 x) (y_cnt x) (y_hs x) (y_ws x) (y_held x) (y_rows x) (y_k x) (y_oc x) (y_TT x) (y_many x)
def P_add_zero_S (prog : Program) (w : World) (p : Program) (loose : List Str) (mean : ExcName → Option Value) (mg mb : Str → Option Value) (dp un : Nat) (gd : Option (List Code)) (cn : Str) (cs : Scope) (a : Addr) (ccd : Value) (cl : List (Str × Addr)) (outer : List Env) (A₀ : Around) (base h₀ : Heap) (L : Addr) (m : Str → Option Value) (s : Shared) (Q E : Value → Shared → Prop) (tl : List (Addr × Obj)) (pg pd hl dc wl pl : Addr) (tg t4 t5 t6 : Tok) (nt n1 n3 : Nat) (cnt : Int → Int) (hs ws : List Value) (held : List Int) (rows : List (Int × Int)) (k : Int) (oc : Obj) (TT : List (Addr × Obj)) (many : Int) : Prop := ∀ (B : Below A₀ base outer h₀) (F : Fr h₀ L s.heap m) (X : (heapK w.params).In h₀) (T : Top p loose mean mg mb h₀) (hk : cs.kind = .function) (N : News h₀ L s.heap ((pg, instObj 124 pd) :: (pd, pgD w.params t4 t5 t6 hl dc wl) :: (hl, listOf hs.toArray n1) :: (dc, oc) :: (wl, listOf ws.toArray n3) :: tl)) (hpl : LRead TT (.ref pl) (enc1 k)) (hhs : LReads TT hs (held.map enc1)) (hws : RowsIn enc1 TT ws rows) (hoc : TabO prog w enc1I TT oc nt cnt) (hT : ∀ p ∈ TT, p ∈ tl) (lo : (dc == sysModules) = false) (hnd : [pg, pd, hl, dc, wl].Nodup) (s1 : ∀ p ∈ tl, p.1 ≠ hl) (s2 : ∀ p ∈ tl, p.1 ≠ wl) (s3 : ∀ p ∈ tl, p.1 ≠ dc) (s4 : ∀ p ∈ tl, p.1 ≠ pd) (hlen : hs.length ≤ 200) (hlen2 : ws.length ≤ 200) (hnt : nt ≤ 200) (hz : ¬ cnt k + many < 0) (hz2 : ¬ 0 < cnt k + many) (hdp : dp + 12 < recursionLimit) (hun : un + 80 < cLine) (ret : ∀ h' tk' D D2 oc' zs zs2, Fr h₀ L h' m → News h₀ L h' ((D, LCg.lst zs) :: (pg, instObj 124 pd) :: (pd, pgD w.params t4 t5 t6 hl dc D2) :: (hl, listOf hs.toArray n1) :: (dc, oc') :: (D2, LCg.lst zs2) :: tl) → TabO prog w enc1I TT oc' (nt + 1) (fun j => if j = k then cnt k + many else cnt j) → (∀ q ∈ ((pg, instObj 124 pd) :: (pd, pgD w.params t4 t5 t6 hl dc wl) :: (hl, listOf hs.toArray n1) :: (dc, oc) :: (wl, listOf ws.toArray n3) :: tl), q.1 ≠ D) → (∀ q ∈ ((pg, instObj 124 pd) :: (pd, pgD w.params t4 t5 t6 hl dc wl) :: (hl, listOf hs.toArray n1) :: (dc, oc) :: (wl, listOf ws.toArray n3) :: tl), q.1 ≠ D2) → D ≠ D2 → Rel2 (fun y (r : Int × Int) => ∃ t, y = .int r.2 t) zs (rows.filter (fun r => decide (r.1 = k))) → RowsIn enc1 TT zs2 (rows.filter (fun r => decide (r.1 ≠ k))) → Q (.ref D) { s with heap := h', toks := tk' }),
    wpAny (model prog w) (ktrTop dp un gd cn cs L a ccd cl outer) (call (.ref 114) [.ref pg, .ref pl, .int many tg]) Q E s
def P_add_zero_P : TT → Prop := fun x => P_add_zero_S (y_prog x) (y_w x) (y_p x) (y_loose x) (y_mean x) (y_mg x) (y_mb x) (y_dp x) (y_un x) (y_gd x) (y_cn x) (y_cs x) (y_a x) (y_ccd x) (y_cl x) (y_outer x) (y_A₀ x) (y_base x) (y_h₀ x) (y_L x) (y_m x) (y_s x) (y_Q x) (y_E x) (y_tl x) (y_pg x) (y_pd x) (y_hl x) (y_dc x) (y_wl x) (y_pl x) (y_tg x) (y_t4 x) (y_t5 x) (y_t6 x) (y_nt x) (y_n1 x) (y_n3 x) (y_cnt x) (y_hs x) (y_ws x) (y_held x) (y_rows x) (y_k x) (y_oc x) (y_TT x) (y_many x)
def P_unl_bad_S (prog : Program) (w : World) (p : Program) (loose : List Str) (mean : ExcName → Option Value) (mg mb : Str → Option Value) (dp un : Nat) (gd : Option (List Code)) (cn : Str) (cs : Scope) (a : Addr) (ccd : Value) (cl : List (Str × Addr)) (outer : List Env) (A₀ : Around) (base h₀ : Heap) (L : Addr) (m : Str → Option Value) (s : Shared) (Q E : Value → Shared → Prop) (tl : List (Addr × Obj)) (pg pd hl dc wl pl : Addr) (t4 t5 t6 : Tok) (nt n1 n3 : Nat) (cnt : Int → Int) (hs ws : List Value) (held : List Int) (rows : List (Int × Int)) (k : Int) (oc : Obj) (TT : List (Addr × Obj)) : Prop := ∀ (B : Below A₀ base outer h₀) (F : Fr h₀ L s.heap m) (X : (heapK w.params).In h₀) (T : Top p loose mean mg mb h₀) (hk : cs.kind = .function) (N : News h₀ L s.heap ((pg, instObj 124 pd) :: (pd, pgD w.params t4 t5 t6 hl dc wl) :: (hl, listOf hs.toArray n1) :: (dc, oc) :: (wl, listOf ws.toArray n3) :: tl)) (hpl : LRead TT (.ref pl) (enc1 k)) (hhs : LReads TT hs (held.map enc1)) (hws : RowsIn enc1 TT ws rows) (hoc : TabO prog w enc1I TT oc nt cnt) (hT : ∀ p ∈ TT, p ∈ tl) (lo : (dc == sysModules) = false) (hnd : [pg, pd, hl, dc, wl].Nodup) (s1 : ∀ p ∈ tl, p.1 ≠ hl) (s2 : ∀ p ∈ tl, p.1 ≠ wl) (s3 : ∀ p ∈ tl, p.1 ≠ dc) (s4 : ∀ p ∈ tl, p.1 ≠ pd) (hlen : hs.length ≤ 200) (hlen2 : ws.length ≤ 200) (hnt : nt ≤ 200) (hmem : held.contains k = false) (hdp : dp + 12 < recursionLimit) (hun : un + 80 < cLine) (ret : ∀ g' h' tk' e d D ta tb tc va vb u1 u2, Fr h₀ L g' m → RaisedE base g' (envX cn cs L a ccd cl :: outer) e (.ref 71) d ((d, dictOf [tyKey w.params "message" ta va, tyKey w.params "spot" tb vb, tyKey w.params "value" tc (.ref D)] 3) ::
      (D, { cls := .type "tuple", data := .seq #[.str "face" u1, .ref 74, .bytes (asciiB txU) u2] }) :: ((pg, instObj 124 pd) :: (pd, pgD w.params t4 t5 t6 hl dc wl) :: (hl, listOf hs.toArray n1) :: (dc, oc) :: (wl, listOf ws.toArray n3) :: tl)) h' → g'.UpToSlots h' → E (.ref e) { s with heap := h', toks := tk' }),
    wpAny (model prog w) (ktrTop dp un gd cn cs L a ccd cl outer) (call (.ref 109) [.ref pg, .ref pl]) Q E s
def P_unl_bad_P : TT → Prop := fun x => P_unl_bad_S (y_prog x) (y_w x) (y_p x) (y_loose x) (y_mean x) (y_mg x) (y_mb x) (y_dp x) (y_un x) (y_gd x) (y_cn x) (y_cs x) (y_a x) (y_ccd x) (y_cl x) (y_outer x) (y_A₀ x) (y_base x) (y_h₀ x) (y_L x) (y_m x) (y_s x) (y_Q x) (y_E x) (y_tl x) (y_pg x) (y_pd x) (y_hl x) (y_dc x) (y_wl x) (y_pl x) (y_t4 x) (y_t5 x) (y_t6 x) (y_nt x) (y_n1 x) (y_n3 x) (y_cnt x) (y_hs x) (y_ws x) (y_held x) (y_rows x) (y_k x) (y_oc x) (y_TT x)
def P_unl_none_S (prog : Program) (w : World) (p : Program) (loose : List Str) (mean : ExcName → Option Value) (mg mb : Str → Option Value) (dp un : Nat) (gd : Option (List Code)) (cn : Str) (cs : Scope) (a : Addr) (ccd : Value) (cl : List (Str × Addr)) (outer : List Env) (A₀ : Around) (base h₀ : Heap) (L : Addr) (m : Str → Option Value) (s : Shared) (Q E : Value → Shared → Prop) (tl : List (Addr × Obj)) (pg pd hl dc wl pl : Addr) (t4 t5 t6 : Tok) (nt n1 n3 : Nat) (cnt : Int → Int) (hs ws : List Value) (held : List Int) (rows : List (Int × Int)) (k : Int) (oc : Obj) (TT : List (Addr × Obj)) : Prop := ∀ (B : Below A₀ base outer h₀) (F : Fr h₀ L s.heap m) (X : (heapK w.params).In h₀) (T : Top p loose mean mg mb h₀) (hk : cs.kind = .function) (N : News h₀ L s.heap ((pg, instObj 124 pd) :: (pd, pgD w.params t4 t5 t6 hl dc wl) :: (hl, listOf hs.toArray n1) :: (dc, oc) :: (wl, listOf ws.toArray n3) :: tl)) (hpl : LRead TT (.ref pl) (enc1 k)) (hhs : LReads TT hs (held.map enc1)) (hws : RowsIn enc1 TT ws rows) (hoc : TabO prog w enc1I TT oc nt cnt) (hT : ∀ p ∈ TT, p ∈ tl) (lo : (dc == sysModules) = false) (hnd : [pg, pd, hl, dc, wl].Nodup) (s1 : ∀ p ∈ tl, p.1 ≠ hl) (s2 : ∀ p ∈ tl, p.1 ≠ wl) (s3 : ∀ p ∈ tl, p.1 ≠ dc) (s4 : ∀ p ∈ tl, p.1 ≠ pd) (hlen : hs.length ≤ 200) (hlen2 : ws.length ≤ 200) (hnt : nt ≤ 200) (hmem : held.contains k = true) (hno : ∀ r ∈ rows, r.1 ≠ k) (hdp : dp + 12 < recursionLimit) (hun : un + 80 < cLine) (ret : ∀ h' tk' l, Fr h₀ L h' m → News h₀ L h' ((l, listOf #[] 0) :: (pg, instObj 124 pd) :: (pd, pgD w.params t4 t5 t6 hl dc wl) :: (hl, listOf (hs.eraseIdx (held.idxOf k)).toArray (n1 + 1)) :: (dc, oc) :: (wl, listOf ws.toArray n3) :: tl) → (∀ q ∈ ((pg, instObj 124 pd) :: (pd, pgD w.params t4 t5 t6 hl dc wl) :: (hl, listOf hs.toArray n1) :: (dc, oc) :: (wl, listOf ws.toArray n3) :: tl), q.1 ≠ l) → Q (.ref l) { s with heap := h', toks := tk' }),
    wpAny (model prog w) (ktrTop dp un gd cn cs L a ccd cl outer) (call (.ref 109) [.ref pg, .ref pl]) Q E s
def P_unl_none_P : TT → Prop := fun x => P_unl_none_S (y_prog x) (y_w x) (y_p x) (y_loose x) (y_mean x) (y_mg x) (y_mb x) (y_dp x) (y_un x) (y_gd x) (y_cn x) (y_cs x) (y_a x) (y_ccd x) (y_cl x) (y_outer x) (y_A₀ x) (y_base x) (y_h₀ x) (y_L x) (y_m x) (y_s x) (y_Q x) (y_E x) (y_tl x) (y_pg x) (y_pd x) (y_hl x) (y_dc x) (y_wl x) (y_pl x) (y_t4 x) (y_t5 x) (y_t6 x) (y_nt x) (y_n1 x) (y_n3 x) (y_cnt x) (y_hs x) (y_ws x) (y_held x) (y_rows x) (y_k x) (y_oc x) (y_TT x)
def P_unl_first_S (prog : Program) (w : World) (p : Program) (loose : List Str) (mean : ExcName → Option Value) (mg mb : Str → Option Value) (dp un : Nat) (gd : Option (List Code)) (cn : Str) (cs : Scope) (a : Addr) (ccd : Value) (cl : List (Str × Addr)) (outer : List Env) (A₀ : Around) (base h₀ : Heap) (L : Addr) (m : Str → Option Value) (s : Shared) (Q E : Value → Shared → Prop) (tl : List (Addr × Obj)) (pg pd hl dc wl pl : Addr) (t4 t5 t6 : Tok) (nt n1 n3 : Nat) (cnt : Int → Int) (hs ws : List Value) (held : List Int) (rows : List (Int × Int)) (g k : Int) (oc : Obj) (TT : List (Addr × Obj)) (pre post : List (Int × Int)) : Prop := ∀ (B : Below A₀ base outer h₀) (F : Fr h₀ L s.heap m) (X : (heapK w.params).In h₀) (T : Top p loose mean mg mb h₀) (hk : cs.kind = .function) (N : News h₀ L s.heap ((pg, instObj 124 pd) :: (pd, pgD w.params t4 t5 t6 hl dc wl) :: (hl, listOf hs.toArray n1) :: (dc, oc) :: (wl, listOf ws.toArray n3) :: tl)) (hpl : LRead TT (.ref pl) (enc1 k)) (hhs : LReads TT hs (held.map enc1)) (hws : RowsIn enc1 TT ws rows) (hoc : TabO prog w enc1I TT oc nt cnt) (hT : ∀ p ∈ TT, p ∈ tl) (lo : (dc == sysModules) = false) (hnd : [pg, pd, hl, dc, wl].Nodup) (s1 : ∀ p ∈ tl, p.1 ≠ hl) (s2 : ∀ p ∈ tl, p.1 ≠ wl) (s3 : ∀ p ∈ tl, p.1 ≠ dc) (s4 : ∀ p ∈ tl, p.1 ≠ pd) (hlen : hs.length ≤ 200) (hlen2 : ws.length ≤ 200) (hnt : nt ≤ 200) (hmem : held.contains k = true) (hrows : rows = pre ++ (k, g) :: post) (hno : ∀ r ∈ pre, r.1 ≠ k) (hdp : dp + 12 < recursionLimit) (hun : un + 80 < cLine) (ret : ∀ h' tk' l u, Fr h₀ L h' m → News h₀ L h' ((l, listOf #[.int g u] 0) :: (pg, instObj 124 pd) :: (pd, pgD w.params t4 t5 t6 hl dc wl) :: (hl, listOf hs.toArray n1) :: (dc, oc) :: (wl, listOf (ws.eraseIdx pre.length).toArray (n3 + 1)) :: tl) → (∀ q ∈ ((pg, instObj 124 pd) :: (pd, pgD w.params t4 t5 t6 hl dc wl) :: (hl, listOf hs.toArray n1) :: (dc, oc) :: (wl, listOf ws.toArray n3) :: tl), q.1 ≠ l) → Q (.ref l) { s with heap := h', toks := tk' }),
    wpAny (model prog w) (ktrTop dp un gd cn cs L a ccd cl outer) (call (.ref 109) [.ref pg, .ref pl]) Q E s
def P_unl_first_P : TT → Prop := fun x => P_unl_first_S (y_prog x) (y_w x) (y_p x) (y_loose x) (y_mean x) (y_mg x) (y_mb x) (y_dp x) (y_un x) (y_gd x) (y_cn x) (y_cs x) (y_a x) (y_ccd x) (y_cl x) (y_outer x) (y_A₀ x) (y_base x) (y_h₀ x) (y_L x) (y_m x) (y_s x) (y_Q x) (y_E x) (y_tl x) (y_pg x) (y_pd x) (y_hl x) (y_dc x) (y_wl x) (y_pl x) (y_t4 x) (y_t5 x) (y_t6 x) (y_nt x) (y_n1 x) (y_n3 x) (y_cnt x) (y_hs x) (y_ws x) (y_held x) (y_rows x) (y_g x) (y_k x) (y_oc x) (y_TT x) (y_pre x) (y_post x)
def M_lock_free_S (prog : Program) (w : World) (p : Program) (loose : List Str) (mean : ExcName → Option Value) (mg mb : Str → Option Value) (dp un : Nat) (gd : Option (List Code)) (cn : Str) (cs : Scope) (a : Addr) (ccd : Value) (cl : List (Str × Addr)) (outer : List Env) (A₀ : Around) (base h₀ : Heap) (L : Addr) (m : Str → Option Value) (s : Shared) (Q E : Value → Shared → Prop) (tl : List (Addr × Obj)) (x xd wl : Addr) (tg t1 t2 : Tok) (n : Nat) (vs : List Value) (q : List Int) (g : Int) : Prop := ∀ (B : Below A₀ base outer h₀) (F : Fr h₀ L s.heap m) (X : (heapK w.params).In h₀) (T : Top p loose mean mg mb h₀) (hk : cs.kind = .function) (N : News h₀ L s.heap ((x, instObj 168 xd) :: (xd, dictOf [tyKey w.params "owner" t1 .none, tyKey w.params "waiting" t2 (.ref wl)] 2) :: (wl, listOf vs.toArray n) :: tl)) (hq : LReads [] vs (q.map .int)) (hnd : [x, xd, wl].Nodup) (s1 : ∀ p ∈ tl, p.1 ≠ xd) (s2 : ∀ p ∈ tl, p.1 ≠ wl) (hlen : vs.length ≤ 200) (hdp : dp + 12 < recursionLimit) (hun : un + 80 < cLine) (ret : ∀ h' tk' , Fr h₀ L h' m → News h₀ L h' ((x, instObj 168 xd) :: (xd, dictOf [tyKey w.params "owner" t1 (.int g tg), tyKey w.params "waiting" t2 (.ref wl)] 2) :: (wl, listOf vs.toArray n) :: tl) → Q (.ref 129) { s with heap := h', toks := tk' }),
    wpAny (model prog w) (ktrTop dp un gd cn cs L a ccd cl outer) (call (.ref 158) [.ref x, .int g tg]) Q E s
def M_lock_free_P : TT → Prop := fun x => M_lock_free_S (y_prog x) (y_w x) (y_p x) (y_loose x) (y_mean x) (y_mg x) (y_mb x) (y_dp x) (y_un x) (y_gd x) (y_cn x) (y_cs x) (y_a x) (y_ccd x) (y_cl x) (y_outer x) (y_A₀ x) (y_base x) (y_h₀ x) (y_L x) (y_m x) (y_s x) (y_Q x) (y_E x) (y_tl x) (y_x x) (y_xd x) (y_wl x) (y_tg x) (y_t1 x) (y_t2 x) (y_n x) (y_vs x) (y_q x) (y_g x)
def M_lock_held_S (prog : Program) (w : World) (p : Program) (loose : List Str) (mean : ExcName → Option Value) (mg mb : Str → Option Value) (dp un : Nat) (gd : Option (List Code)) (cn : Str) (cs : Scope) (a : Addr) (ccd : Value) (cl : List (Str × Addr)) (outer : List Env) (A₀ : Around) (base h₀ : Heap) (L : Addr) (m : Str → Option Value) (s : Shared) (Q E : Value → Shared → Prop) (tl : List (Addr × Obj)) (x xd wl : Addr) (tg t1 t2 to : Tok) (n : Nat) (vs : List Value) (q : List Int) (g o : Int) : Prop := ∀ (B : Below A₀ base outer h₀) (F : Fr h₀ L s.heap m) (X : (heapK w.params).In h₀) (T : Top p loose mean mg mb h₀) (hk : cs.kind = .function) (N : News h₀ L s.heap ((x, instObj 168 xd) :: (xd, dictOf [tyKey w.params "owner" t1 (.int o to), tyKey w.params "waiting" t2 (.ref wl)] 2) :: (wl, listOf vs.toArray n) :: tl)) (hq : LReads [] vs (q.map .int)) (hnd : [x, xd, wl].Nodup) (s1 : ∀ p ∈ tl, p.1 ≠ xd) (s2 : ∀ p ∈ tl, p.1 ≠ wl) (hlen : vs.length ≤ 200) (hmem : q.contains g = false) (hdp : dp + 12 < recursionLimit) (hun : un + 80 < cLine) (ret : ∀ h' tk' , Fr h₀ L h' m → News h₀ L h' ((x, instObj 168 xd) :: (xd, dictOf [tyKey w.params "owner" t1 (.int o to), tyKey w.params "waiting" t2 (.ref wl)] 2) :: (wl, listOf (vs ++ [Value.int g tg]).toArray (n + 1)) :: tl) → Q (.ref 130) { s with heap := h', toks := tk' }),
    wpAny (model prog w) (ktrTop dp un gd cn cs L a ccd cl outer) (call (.ref 158) [.ref x, .int g tg]) Q E s
def M_lock_held_P : TT → Prop := fun x => M_lock_held_S (y_prog x) (y_w x) (y_p x) (y_loose x) (y_mean x) (y_mg x) (y_mb x) (y_dp x) (y_un x) (y_gd x) (y_cn x) (y_cs x) (y_a x) (y_ccd x) (y_cl x) (y_outer x) (y_A₀ x) (y_base x) (y_h₀ x) (y_L x) (y_m x) (y_s x) (y_Q x) (y_E x) (y_tl x) (y_x x) (y_xd x) (y_wl x) (y_tg x) (y_t1 x) (y_t2 x) (y_to x) (y_n x) (y_vs x) (y_q x) (y_g x) (y_o x)
def M_unl_none_S (prog : Program) (w : World) (p : Program) (loose : List Str) (mean : ExcName → Option Value) (mg mb : Str → Option Value) (dp un : Nat) (gd : Option (List Code)) (cn : Str) (cs : Scope) (a : Addr) (ccd : Value) (cl : List (Str × Addr)) (outer : List Env) (A₀ : Around) (base h₀ : Heap) (L : Addr) (m : Str → Option Value) (s : Shared) (Q E : Value → Shared → Prop) (tl : List (Addr × Obj)) (x xd wl : Addr) (t1 t2 to : Tok) (n : Nat) (vs : List Value) (q : List Int) (o : Int) : Prop := ∀ (B : Below A₀ base outer h₀) (F : Fr h₀ L s.heap m) (X : (heapK w.params).In h₀) (T : Top p loose mean mg mb h₀) (hk : cs.kind = .function) (N : News h₀ L s.heap ((x, instObj 168 xd) :: (xd, dictOf [tyKey w.params "owner" t1 (.int o to), tyKey w.params "waiting" t2 (.ref wl)] 2) :: (wl, listOf ([] : List Value).toArray n) :: tl)) (hq : LReads [] vs (q.map .int)) (hnd : [x, xd, wl].Nodup) (s1 : ∀ p ∈ tl, p.1 ≠ xd) (s2 : ∀ p ∈ tl, p.1 ≠ wl) (hlen : vs.length ≤ 200) (hvs : vs = []) (hdp : dp + 12 < recursionLimit) (hun : un + 80 < cLine) (ret : ∀ h' tk' , Fr h₀ L h' m → News h₀ L h' ((x, instObj 168 xd) :: (xd, dictOf [tyKey w.params "owner" t1 .none, tyKey w.params "waiting" t2 (.ref wl)] 2) :: (wl, listOf ([] : List Value).toArray n) :: tl) → Q .none { s with heap := h', toks := tk' }),
    wpAny (model prog w) (ktrTop dp un gd cn cs L a ccd cl outer) (call (.ref 165) [.ref x]) Q E s
def M_unl_none_P : TT → Prop := fun x => M_unl_none_S (y_prog x) (y_w x) (y_p x) (y_loose x) (y_mean x) (y_mg x) (y_mb x) (y_dp x) (y_un x) (y_gd x) (y_cn x) (y_cs x) (y_a x) (y_ccd x) (y_cl x) (y_outer x) (y_A₀ x) (y_base x) (y_h₀ x) (y_L x) (y_m x) (y_s x) (y_Q x) (y_E x) (y_tl x) (y_x x) (y_xd x) (y_wl x) (y_t1 x) (y_t2 x) (y_to x) (y_n x) (y_vs x) (y_q x) (y_o x)
def M_unl_first_S (prog : Program) (w : World) (p : Program) (loose : List Str) (mean : ExcName → Option Value) (mg mb : Str → Option Value) (dp un : Nat) (gd : Option (List Code)) (cn : Str) (cs : Scope) (a : Addr) (ccd : Value) (cl : List (Str × Addr)) (outer : List Env) (A₀ : Around) (base h₀ : Heap) (L : Addr) (m : Str → Option Value) (s : Shared) (Q E : Value → Shared → Prop) (tl : List (Addr × Obj)) (x xd wl : Addr) (t1 t2 to : Tok) (n : Nat) (vs : List Value) (q : List Int) (o : Int) (r : Int) (qs : List Int) (tr : Tok) (us : List Value) : Prop := ∀ (B : Below A₀ base outer h₀) (F : Fr h₀ L s.heap m) (X : (heapK w.params).In h₀) (T : Top p loose mean mg mb h₀) (hk : cs.kind = .function) (N : News h₀ L s.heap ((x, instObj 168 xd) :: (xd, dictOf [tyKey w.params "owner" t1 (.int o to), tyKey w.params "waiting" t2 (.ref wl)] 2) :: (wl, listOf vs.toArray n) :: tl)) (hq : LReads [] vs (q.map .int)) (hnd : [x, xd, wl].Nodup) (s1 : ∀ p ∈ tl, p.1 ≠ xd) (s2 : ∀ p ∈ tl, p.1 ≠ wl) (hlen : vs.length ≤ 200) (hvs : vs = .int r tr :: us) (hqe : q = r :: qs) (hdp : dp + 12 < recursionLimit) (hun : un + 80 < cLine) (ret : ∀ h' tk' , Fr h₀ L h' m → News h₀ L h' ((x, instObj 168 xd) :: (xd, dictOf [tyKey w.params "owner" t1 (.int r tr), tyKey w.params "waiting" t2 (.ref wl)] 2) :: (wl, listOf us.toArray (n + 1)) :: tl) → Q (.int r tr) { s with heap := h', toks := tk' }),
    wpAny (model prog w) (ktrTop dp un gd cn cs L a ccd cl outer) (call (.ref 165) [.ref x]) Q E s
def M_unl_first_P : TT → Prop := fun x => M_unl_first_S (y_prog x) (y_w x) (y_p x) (y_loose x) (y_mean x) (y_mg x) (y_mb x) (y_dp x) (y_un x) (y_gd x) (y_cn x) (y_cs x) (y_a x) (y_ccd x) (y_cl x) (y_outer x) (y_A₀ x) (y_base x) (y_h₀ x) (y_L x) (y_m x) (y_s x) (y_Q x) (y_E x) (y_tl x) (y_x x) (y_xd x) (y_wl x) (y_t1 x) (y_t2 x) (y_to x) (y_n x) (y_vs x) (y_q x) (y_o x) (y_r x) (y_qs x) (y_tr x) (y_us x)
def M_unl_bad_S (prog : Program) (w : World) (p : Program) (loose : List Str) (mean : ExcName → Option Value) (mg mb : Str → Option Value) (dp un : Nat) (gd : Option (List Code)) (cn : Str) (cs : Scope) (a : Addr) (ccd : Value) (cl : List (Str × Addr)) (outer : List Env) (A₀ : Around) (base h₀ : Heap) (L : Addr) (m : Str → Option Value) (s : Shared) (Q E : Value → Shared → Prop) (tl : List (Addr × Obj)) (x xd wl : Addr) (t1 t2 : Tok) (n : Nat) (vs : List Value) (q : List Int) : Prop := ∀ (B : Below A₀ base outer h₀) (F : Fr h₀ L s.heap m) (X : (heapK w.params).In h₀) (T : Top p loose mean mg mb h₀) (hk : cs.kind = .function) (N : News h₀ L s.heap ((x, instObj 168 xd) :: (xd, dictOf [tyKey w.params "owner" t1 .none, tyKey w.params "waiting" t2 (.ref wl)] 2) :: (wl, listOf vs.toArray n) :: tl)) (hq : LReads [] vs (q.map .int)) (hnd : [x, xd, wl].Nodup) (s1 : ∀ p ∈ tl, p.1 ≠ xd) (s2 : ∀ p ∈ tl, p.1 ≠ wl) (hlen : vs.length ≤ 200) (hdp : dp + 12 < recursionLimit) (hun : un + 80 < cLine) (ret : ∀ g' h' tk' e d D ta tb tcc va vb u1 u2, Fr h₀ L g' m → RaisedE base g' (envX cn cs L a ccd cl :: outer) e (.ref 71) d ((d, dictOf [tyKey w.params "message" ta va, tyKey w.params "spot" tb vb, tyKey w.params "value" tcc (.ref D)] 3) ::
      (D, { cls := .type "tuple", data := .seq #[.str "face" u1, .ref 74, .bytes (asciiB txU) u2] }) :: ((x, instObj 168 xd) :: (xd, dictOf [tyKey w.params "owner" t1 .none, tyKey w.params "waiting" t2 (.ref wl)] 2) :: (wl, listOf vs.toArray n) :: tl)) h' → g'.UpToSlots h' → E (.ref e) { s with heap := h', toks := tk' }),
    wpAny (model prog w) (ktrTop dp un gd cn cs L a ccd cl outer) (call (.ref 165) [.ref x]) Q E s
def M_unl_bad_P : TT → Prop := fun x => M_unl_bad_S (y_prog x) (y_w x) (y_p x) (y_loose x) (y_mean x) (y_mg x) (y_mb x) (y_dp x) (y_un x) (y_gd x) (y_cn x) (y_cs x) (y_a x) (y_ccd x) (y_cl x) (y_outer x) (y_A₀ x) (y_base x) (y_h₀ x) (y_L x) (y_m x) (y_s x) (y_Q x) (y_E x) (y_tl x) (y_x x) (y_xd x) (y_wl x) (y_t1 x) (y_t2 x) (y_n x) (y_vs x) (y_q x)
def M_isl_none_S (prog : Program) (w : World) (p : Program) (loose : List Str) (mean : ExcName → Option Value) (mg mb : Str → Option Value) (dp un : Nat) (gd : Option (List Code)) (cn : Str) (cs : Scope) (a : Addr) (ccd : Value) (cl : List (Str × Addr)) (outer : List Env) (A₀ : Around) (base h₀ : Heap) (L : Addr) (m : Str → Option Value) (s : Shared) (Q E : Value → Shared → Prop) (tl : List (Addr × Obj)) (x xd wl : Addr) (t1 t2 : Tok) (n : Nat) (vs : List Value) (q : List Int) : Prop := ∀ (B : Below A₀ base outer h₀) (F : Fr h₀ L s.heap m) (X : (heapK w.params).In h₀) (T : Top p loose mean mg mb h₀) (hk : cs.kind = .function) (N : News h₀ L s.heap ((x, instObj 168 xd) :: (xd, dictOf [tyKey w.params "owner" t1 .none, tyKey w.params "waiting" t2 (.ref wl)] 2) :: (wl, listOf vs.toArray n) :: tl)) (hq : LReads [] vs (q.map .int)) (hnd : [x, xd, wl].Nodup) (s1 : ∀ p ∈ tl, p.1 ≠ xd) (s2 : ∀ p ∈ tl, p.1 ≠ wl) (hlen : vs.length ≤ 200) (hdp : dp + 12 < recursionLimit) (hun : un + 80 < cLine) (ret : ∀ h' tk' , Fr h₀ L h' m → News h₀ L h' ((x, instObj 168 xd) :: (xd, dictOf [tyKey w.params "owner" t1 .none, tyKey w.params "waiting" t2 (.ref wl)] 2) :: (wl, listOf vs.toArray n) :: tl) → Q (.bool false) { s with heap := h', toks := tk' }),
    wpAny (model prog w) (ktrTop dp un gd cn cs L a ccd cl outer) (call (.ref 151) [.ref x]) Q E s
def M_isl_none_P : TT → Prop := fun x => M_isl_none_S (y_prog x) (y_w x) (y_p x) (y_loose x) (y_mean x) (y_mg x) (y_mb x) (y_dp x) (y_un x) (y_gd x) (y_cn x) (y_cs x) (y_a x) (y_ccd x) (y_cl x) (y_outer x) (y_A₀ x) (y_base x) (y_h₀ x) (y_L x) (y_m x) (y_s x) (y_Q x) (y_E x) (y_tl x) (y_x x) (y_xd x) (y_wl x) (y_t1 x) (y_t2 x) (y_n x) (y_vs x) (y_q x)
def M_isl_some_S (prog : Program) (w : World) (p : Program) (loose : List Str) (mean : ExcName → Option Value) (mg mb : Str → Option Value) (dp un : Nat) (gd : Option (List Code)) (cn : Str) (cs : Scope) (a : Addr) (ccd : Value) (cl : List (Str × Addr)) (outer : List Env) (A₀ : Around) (base h₀ : Heap) (L : Addr) (m : Str → Option Value) (s : Shared) (Q E : Value → Shared → Prop) (tl : List (Addr × Obj)) (x xd wl : Addr) (t1 t2 to : Tok) (n : Nat) (vs : List Value) (q : List Int) (o : Int) : Prop := ∀ (B : Below A₀ base outer h₀) (F : Fr h₀ L s.heap m) (X : (heapK w.params).In h₀) (T : Top p loose mean mg mb h₀) (hk : cs.kind = .function) (N : News h₀ L s.heap ((x, instObj 168 xd) :: (xd, dictOf [tyKey w.params "owner" t1 (.int o to), tyKey w.params "waiting" t2 (.ref wl)] 2) :: (wl, listOf vs.toArray n) :: tl)) (hq : LReads [] vs (q.map .int)) (hnd : [x, xd, wl].Nodup) (s1 : ∀ p ∈ tl, p.1 ≠ xd) (s2 : ∀ p ∈ tl, p.1 ≠ wl) (hlen : vs.length ≤ 200) (hdp : dp + 12 < recursionLimit) (hun : un + 80 < cLine) (ret : ∀ h' tk' , Fr h₀ L h' m → News h₀ L h' ((x, instObj 168 xd) :: (xd, dictOf [tyKey w.params "owner" t1 (.int o to), tyKey w.params "waiting" t2 (.ref wl)] 2) :: (wl, listOf vs.toArray n) :: tl) → Q (.bool true) { s with heap := h', toks := tk' }),
    wpAny (model prog w) (ktrTop dp un gd cn cs L a ccd cl outer) (call (.ref 151) [.ref x]) Q E s
def M_isl_some_P : TT → Prop := fun x => M_isl_some_S (y_prog x) (y_w x) (y_p x) (y_loose x) (y_mean x) (y_mg x) (y_mb x) (y_dp x) (y_un x) (y_gd x) (y_cn x) (y_cs x) (y_a x) (y_ccd x) (y_cl x) (y_outer x) (y_A₀ x) (y_base x) (y_h₀ x) (y_L x) (y_m x) (y_s x) (y_Q x) (y_E x) (y_tl x) (y_x x) (y_xd x) (y_wl x) (y_t1 x) (y_t2 x) (y_to x) (y_n x) (y_vs x) (y_q x) (y_o x)
def W_add_neg_S (prog : Program) (w : World) (p : Program) (loose : List Str) (mean : ExcName → Option Value) (mg mb : Str → Option Value) (dp un : Nat) (gd : Option (List Code)) (cn : Str) (cs : Scope) (a : Addr) (ccd : Value) (cl : List (Str × Addr)) (outer : List Env) (A₀ : Around) (base h₀ : Heap) (L : Addr) (m : Str → Option Value) (s : Shared) (Q E : Value → Shared → Prop) (tl : List (Addr × Obj)) (x xd wl : Addr) (tg t1 t2 tc : Tok) (n : Nat) (vs : List Value) (q : List Int) (g c : Int) : Prop := ∀ (B : Below A₀ base outer h₀) (F : Fr h₀ L s.heap m) (X : (heapK w.params).In h₀) (T : Top p loose mean mg mb h₀) (hk : cs.kind = .function) (N : News h₀ L s.heap ((x, instObj 210 xd) :: (xd, dictOf [tyKey w.params "count" t1 (.int c tc), tyKey w.params "waiting" t2 (.ref wl)] 2) :: (wl, listOf vs.toArray n) :: tl)) (hq : LReads [] vs (q.map .int)) (hnd : [x, xd, wl].Nodup) (s1 : ∀ p ∈ tl, p.1 ≠ xd) (s2 : ∀ p ∈ tl, p.1 ≠ wl) (hlen : vs.length ≤ 200) (hz : c + g < 0) (hdp : dp + 12 < recursionLimit) (hun : un + 80 < cLine) (ret : ∀ g' h' tk' e d D ta tb tcc va vb u1 u2, Fr h₀ L g' m → RaisedE base g' (envX cn cs L a ccd cl :: outer) e (.ref 71) d ((d, dictOf [tyKey w.params "message" ta va, tyKey w.params "spot" tb vb, tyKey w.params "value" tcc (.ref D)] 3) ::
      (D, { cls := .type "tuple", data := .seq #[.str "face" u1, .ref 74, .bytes (asciiB txN) u2] }) :: ((x, instObj 210 xd) :: (xd, dictOf [tyKey w.params "count" t1 (.int c tc), tyKey w.params "waiting" t2 (.ref wl)] 2) :: (wl, listOf vs.toArray n) :: tl)) h' → g'.UpToSlots h' → E (.ref e) { s with heap := h', toks := tk' }),
    wpAny (model prog w) (ktrTop dp un gd cn cs L a ccd cl outer) (call (.ref 193) [.ref x, .int g tg]) Q E s
def W_add_neg_P : TT → Prop := fun x => W_add_neg_S (y_prog x) (y_w x) (y_p x) (y_loose x) (y_mean x) (y_mg x) (y_mb x) (y_dp x) (y_un x) (y_gd x) (y_cn x) (y_cs x) (y_a x) (y_ccd x) (y_cl x) (y_outer x) (y_A₀ x) (y_base x) (y_h₀ x) (y_L x) (y_m x) (y_s x) (y_Q x) (y_E x) (y_tl x) (y_x x) (y_xd x) (y_wl x) (y_tg x) (y_t1 x) (y_t2 x) (y_tc x) (y_n x) (y_vs x) (y_q x) (y_g x) (y_c x)
def W_add_pos_S (prog : Program) (w : World) (p : Program) (loose : List Str) (mean : ExcName → Option Value) (mg mb : Str → Option Value) (dp un : Nat) (gd : Option (List Code)) (cn : Str) (cs : Scope) (a : Addr) (ccd : Value) (cl : List (Str × Addr)) (outer : List Env) (A₀ : Around) (base h₀ : Heap) (L : Addr) (m : Str → Option Value) (s : Shared) (Q E : Value → Shared → Prop) (tl : List (Addr × Obj)) (x xd wl : Addr) (tg t1 t2 tc : Tok) (n : Nat) (vs : List Value) (q : List Int) (g c : Int) : Prop := ∀ (B : Below A₀ base outer h₀) (F : Fr h₀ L s.heap m) (X : (heapK w.params).In h₀) (T : Top p loose mean mg mb h₀) (hk : cs.kind = .function) (N : News h₀ L s.heap ((x, instObj 210 xd) :: (xd, dictOf [tyKey w.params "count" t1 (.int c tc), tyKey w.params "waiting" t2 (.ref wl)] 2) :: (wl, listOf vs.toArray n) :: tl)) (hq : LReads [] vs (q.map .int)) (hnd : [x, xd, wl].Nodup) (s1 : ∀ p ∈ tl, p.1 ≠ xd) (s2 : ∀ p ∈ tl, p.1 ≠ wl) (hlen : vs.length ≤ 200) (hz : ¬ c + g < 0) (hz2 : 0 < c + g) (hdp : dp + 12 < recursionLimit) (hun : un + 80 < cLine) (ret : ∀ h' tk' l u, Fr h₀ L h' m → News h₀ L h' ((l, listOf #[] 0) :: (x, instObj 210 xd) :: (xd, dictOf [tyKey w.params "count" t1 (.int (c + g) u), tyKey w.params "waiting" t2 (.ref wl)] 2) :: (wl, listOf vs.toArray n) :: tl) → (∀ q ∈ ((x, instObj 210 xd) :: (xd, dictOf [tyKey w.params "count" t1 (.int c tc), tyKey w.params "waiting" t2 (.ref wl)] 2) :: (wl, listOf vs.toArray n) :: tl), q.1 ≠ l) → Q (.ref l) { s with heap := h', toks := tk' }),
    wpAny (model prog w) (ktrTop dp un gd cn cs L a ccd cl outer) (call (.ref 193) [.ref x, .int g tg]) Q E s
def W_add_pos_P : TT → Prop := fun x => W_add_pos_S (y_prog x) (y_w x) (y_p x) (y_loose x) (y_mean x) (y_mg x) (y_mb x) (y_dp x) (y_un x) (y_gd x) (y_cn x) (y_cs x) (y_a x) (y_ccd x) (y_cl x) (y_outer x) (y_A₀ x) (y_base x) (y_h₀ x) (y_L x) (y_m x) (y_s x) (y_Q x) (y_E x) (y_tl x) (y_x x) (y_xd x) (y_wl x) (y_tg x) (y_t1 x) (y_t2 x) (y_tc x) (y_n x) (y_vs x) (y_q x) (y_g x) (y_c x)
def W_add_zero_S (prog : Program) (w : World) (p : Program) (loose : List Str) (mean : ExcName → Option Value) (mg mb : Str → Option Value) (dp un : Nat) (gd : Option (List Code)) (cn : Str) (cs : Scope) (a : Addr) (ccd : Value) (cl : List (Str × Addr)) (outer : List Env) (A₀ : Around) (base h₀ : Heap) (L : Addr) (m : Str → Option Value) (s : Shared) (Q E : Value → Shared → Prop) (tl : List (Addr × Obj)) (x xd wl : Addr) (tg t1 t2 tc : Tok) (n : Nat) (vs : List Value) (q : List Int) (g c : Int) : Prop := ∀ (B : Below A₀ base outer h₀) (F : Fr h₀ L s.heap m) (X : (heapK w.params).In h₀) (T : Top p loose mean mg mb h₀) (hk : cs.kind = .function) (N : News h₀ L s.heap ((x, instObj 210 xd) :: (xd, dictOf [tyKey w.params "count" t1 (.int c tc), tyKey w.params "waiting" t2 (.ref wl)] 2) :: (wl, listOf vs.toArray n) :: tl)) (hq : LReads [] vs (q.map .int)) (hnd : [x, xd, wl].Nodup) (s1 : ∀ p ∈ tl, p.1 ≠ xd) (s2 : ∀ p ∈ tl, p.1 ≠ wl) (hlen : vs.length ≤ 200) (hz : ¬ c + g < 0) (hz2 : ¬ 0 < c + g) (hdp : dp + 12 < recursionLimit) (hun : un + 80 < cLine) (ret : ∀ h' tk' l u, Fr h₀ L h' m → News h₀ L h' ((wl, listOf vs.toArray n) :: (x, instObj 210 xd) :: (xd, dictOf [tyKey w.params "count" t1 (.int (c + g) u), tyKey w.params "waiting" t2 (.ref l)] 2) :: (l, listOf #[] 0) :: tl) → (∀ q ∈ ((x, instObj 210 xd) :: (xd, dictOf [tyKey w.params "count" t1 (.int c tc), tyKey w.params "waiting" t2 (.ref wl)] 2) :: (wl, listOf vs.toArray n) :: tl), q.1 ≠ l) → Q (.ref wl) { s with heap := h', toks := tk' }),
    wpAny (model prog w) (ktrTop dp un gd cn cs L a ccd cl outer) (call (.ref 193) [.ref x, .int g tg]) Q E s
def W_add_zero_P : TT → Prop := fun x => W_add_zero_S (y_prog x) (y_w x) (y_p x) (y_loose x) (y_mean x) (y_mg x) (y_mb x) (y_dp x) (y_un x) (y_gd x) (y_cn x) (y_cs x) (y_a x) (y_ccd x) (y_cl x) (y_outer x) (y_A₀ x) (y_base x) (y_h₀ x) (y_L x) (y_m x) (y_s x) (y_Q x) (y_E x) (y_tl x) (y_x x) (y_xd x) (y_wl x) (y_tg x) (y_t1 x) (y_t2 x) (y_tc x) (y_n x) (y_vs x) (y_q x) (y_g x) (y_c x)
def W_wait_zero_S (prog : Program) (w : World) (p : Program) (loose : List Str) (mean : ExcName → Option Value) (mg mb : Str → Option Value) (dp un : Nat) (gd : Option (List Code)) (cn : Str) (cs : Scope) (a : Addr) (ccd : Value) (cl : List (Str × Addr)) (outer : List Env) (A₀ : Around) (base h₀ : Heap) (L : Addr) (m : Str → Option Value) (s : Shared) (Q E : Value → Shared → Prop) (tl : List (Addr × Obj)) (x xd wl : Addr) (tg t1 t2 tc : Tok) (n : Nat) (vs : List Value) (q : List Int) (g c : Int) : Prop := ∀ (B : Below A₀ base outer h₀) (F : Fr h₀ L s.heap m) (X : (heapK w.params).In h₀) (T : Top p loose mean mg mb h₀) (hk : cs.kind = .function) (N : News h₀ L s.heap ((x, instObj 210 xd) :: (xd, dictOf [tyKey w.params "count" t1 (.int c tc), tyKey w.params "waiting" t2 (.ref wl)] 2) :: (wl, listOf vs.toArray n) :: tl)) (hq : LReads [] vs (q.map .int)) (hnd : [x, xd, wl].Nodup) (s1 : ∀ p ∈ tl, p.1 ≠ xd) (s2 : ∀ p ∈ tl, p.1 ≠ wl) (hlen : vs.length ≤ 200) (hz : c = 0) (hdp : dp + 12 < recursionLimit) (hun : un + 80 < cLine) (ret : ∀ h' tk' , Fr h₀ L h' m → News h₀ L h' ((x, instObj 210 xd) :: (xd, dictOf [tyKey w.params "count" t1 (.int c tc), tyKey w.params "waiting" t2 (.ref wl)] 2) :: (wl, listOf vs.toArray n) :: tl) → Q (.ref 129) { s with heap := h', toks := tk' }),
    wpAny (model prog w) (ktrTop dp un gd cn cs L a ccd cl outer) (call (.ref 207) [.ref x, .int g tg]) Q E s
def W_wait_zero_P : TT → Prop := fun x => W_wait_zero_S (y_prog x) (y_w x) (y_p x) (y_loose x) (y_mean x) (y_mg x) (y_mb x) (y_dp x) (y_un x) (y_gd x) (y_cn x) (y_cs x) (y_a x) (y_ccd x) (y_cl x) (y_outer x) (y_A₀ x) (y_base x) (y_h₀ x) (y_L x) (y_m x) (y_s x) (y_Q x) (y_E x) (y_tl x) (y_x x) (y_xd x) (y_wl x) (y_tg x) (y_t1 x) (y_t2 x) (y_tc x) (y_n x) (y_vs x) (y_q x) (y_g x) (y_c x)
def W_wait_non_S (prog : Program) (w : World) (p : Program) (loose : List Str) (mean : ExcName → Option Value) (mg mb : Str → Option Value) (dp un : Nat) (gd : Option (List Code)) (cn : Str) (cs : Scope) (a : Addr) (ccd : Value) (cl : List (Str × Addr)) (outer : List Env) (A₀ : Around) (base h₀ : Heap) (L : Addr) (m : Str → Option Value) (s : Shared) (Q E : Value → Shared → Prop) (tl : List (Addr × Obj)) (x xd wl : Addr) (tg t1 t2 tc : Tok) (n : Nat) (vs : List Value) (q : List Int) (g c : Int) : Prop := ∀ (B : Below A₀ base outer h₀) (F : Fr h₀ L s.heap m) (X : (heapK w.params).In h₀) (T : Top p loose mean mg mb h₀) (hk : cs.kind = .function) (N : News h₀ L s.heap ((x, instObj 210 xd) :: (xd, dictOf [tyKey w.params "count" t1 (.int c tc), tyKey w.params "waiting" t2 (.ref wl)] 2) :: (wl, listOf vs.toArray n) :: tl)) (hq : LReads [] vs (q.map .int)) (hnd : [x, xd, wl].Nodup) (s1 : ∀ p ∈ tl, p.1 ≠ xd) (s2 : ∀ p ∈ tl, p.1 ≠ wl) (hlen : vs.length ≤ 200) (hz : ¬ c = 0) (hdp : dp + 12 < recursionLimit) (hun : un + 80 < cLine) (ret : ∀ h' tk' , Fr h₀ L h' m → News h₀ L h' ((x, instObj 210 xd) :: (xd, dictOf [tyKey w.params "count" t1 (.int c tc), tyKey w.params "waiting" t2 (.ref wl)] 2) :: (wl, listOf (vs ++ [Value.int g tg]).toArray (n + 1)) :: tl) → Q (.ref 130) { s with heap := h', toks := tk' }),
    wpAny (model prog w) (ktrTop dp un gd cn cs L a ccd cl outer) (call (.ref 207) [.ref x, .int g tg]) Q E s
def W_wait_non_P : TT → Prop := fun x => W_wait_non_S (y_prog x) (y_w x) (y_p x) (y_loose x) (y_mean x) (y_mg x) (y_mb x) (y_dp x) (y_un x) (y_gd x) (y_cn x) (y_cs x) (y_a x) (y_ccd x) (y_cl x) (y_outer x) (y_A₀ x) (y_base x) (y_h₀ x) (y_L x) (y_m x) (y_s x) (y_Q x) (y_E x) (y_tl x) (y_x x) (y_xd x) (y_wl x) (y_tg x) (y_t1 x) (y_t2 x) (y_tc x) (y_n x) (y_vs x) (y_q x) (y_g x) (y_c x)
def L_lock_free_S (prog : Program) (w : World) (p : Program) (loose : List Str) (mean : ExcName → Option Value) (mg mb : Str → Option Value) (dp un : Nat) (gd : Option (List Code)) (cn : Str) (cs : Scope) (a : Addr) (ccd : Value) (cl : List (Str × Addr)) (outer : List Env) (A₀ : Around) (base h₀ : Heap) (L : Addr) (m : Str → Option Value) (s : Shared) (Q E : Value → Shared → Prop) (tl : List (Addr × Obj)) (sd pg pd hl dc wl : Addr) (tg ta tm tw t1 t2 t3 t4 t5 t6 : Tok) (nt n1 n3 : Nat) (cnt : Int → Int) (hs ws : List Value) (held : List Int) (rows : List (Int × Int)) (g k many : Int) (oc osd : Obj) (gl al : Value) (TT : List (Addr × Obj)) : Prop := ∀ (B : Below A₀ base outer h₀) (F : Fr h₀ L s.heap m) (X : (heapK w.params).In h₀) (T : Top p loose mean mg mb h₀) (hk : cs.kind = .function) (N : News h₀ L s.heap ((sd, osd) :: (pg, instObj 124 pd) :: (pd, pgD w.params t4 t5 t6 hl dc wl) :: (hl, listOf hs.toArray n1) :: (dc, oc) :: (wl, listOf ws.toArray n3) :: tl)) (hsd : Obj.IsDictOf (PySem.strKind prog w) osd (strPairs [(.str "plain" t1, .ref pg), (.str "gates" t2, gl), (.str "asleep" t3, al)])) (hhs : LReads TT hs (held.map enc1)) (hws : RowsIn enc1 TT ws rows) (hoc : TabO prog w enc1I TT oc nt cnt) (hT : ∀ p ∈ TT, p ∈ tl) (htt : TupTail TT) (lo : (dc == sysModules) = false) (hnd : [sd, pg, pd, hl, dc, wl].Nodup) (hsep : ∀ a ∈ [sd, pg, pd, hl, dc, wl], ∀ p ∈ tl, p.1 ≠ a) (hlen : hs.length ≤ 200) (hlen2 : ws.length ≤ 200) (hnt : nt ≤ 200) (hmem : held.contains k = false) (hdp : dp + 16 < recursionLimit) (hun : un + 90 < cLine) (ret : ∀ h' tk' l r us nr hs' n1' oc' nt' W ws' n3' ex, Fr h₀ L h' m →
      News h₀ L h' ((l, listOf #[.bool true, .ref r] 0) :: (r, listOf us.toArray nr) :: (sd, osd) :: (pg, instObj 124 pd) :: (pd, pgD w.params t4 t5 t6 hl dc W) :: (hl, listOf hs'.toArray n1') :: (dc, oc') :: (W, listOf ws'.toArray n3') :: tl) →
      RowsIn enc1 ex ws' (rows) → LReads ex hs' (List.map enc1 (held ++ [k])) → TabO prog w enc1I ex oc' nt' (cnt) → (∀ p ∈ TT, p ∈ ex) → nt' ≤ nt + 1 → News h₀ L h' ex → TupTail ex → LReads [] us (List.map .int ([])) →
      New l [sd, pg, pd, hl, dc, wl] tl → New r [sd, pg, pd, hl, dc, wl] tl → l ≠ r → (W = wl ∨ New W [sd, pg, pd, hl, dc, wl] tl) → W ≠ l → W ≠ r → (∀ p ∈ ex, p ∈ TT ∨ New p.1 [sd, pg, pd, hl, dc, wl] tl) → Q (.ref l) { s with heap := h', toks := tk' }),
    wpAny (model prog w) (ktrTop dp un gd cn cs L a ccd cl outer) (call (.ref 270) [.ref sd, .int g tg, .str "lock" tw, .int k ta, .int many tm]) Q E s
def L_lock_free_P : TT → Prop := fun x => L_lock_free_S (y_prog x) (y_w x) (y_p x) (y_loose x) (y_mean x) (y_mg x) (y_mb x) (y_dp x) (y_un x) (y_gd x) (y_cn x) (y_cs x) (y_a x) (y_ccd x) (y_cl x) (y_outer x) (y_A₀ x) (y_base x) (y_h₀ x) (y_L x) (y_m x) (y_s x) (y_Q x) (y_E x) (y_tl x) (y_sd x) (y_pg x) (y_pd x) (y_hl x) (y_dc x) (y_wl x) (y_tg x) (y_ta x) (y_tm x) (y_tw x) (y_t1 x) (y_t2 x) (y_t3 x) (y_t4 x) (y_t5 x) (y_t6 x) (y_nt x) (y_n1 x) (y_n3 x) (y_cnt x) (y_hs x) (y_ws x) (y_held x) (y_rows x) (y_g x) (y_k x) (y_many x) (y_oc x) (y_osd x) (y_gl_ x) (y_al x) (y_TT x)
def L_lock_held_S (prog : Program) (w : World) (p : Program) (loose : List Str) (mean : ExcName → Option Value) (mg mb : Str → Option Value) (dp un : Nat) (gd : Option (List Code)) (cn : Str) (cs : Scope) (a : Addr) (ccd : Value) (cl : List (Str × Addr)) (outer : List Env) (A₀ : Around) (base h₀ : Heap) (L : Addr) (m : Str → Option Value) (s : Shared) (Q E : Value → Shared → Prop) (tl : List (Addr × Obj)) (sd pg pd hl dc wl : Addr) (tg ta tm tw t1 t2 t3 t4 t5 t6 : Tok) (nt n1 n3 : Nat) (cnt : Int → Int) (hs ws : List Value) (held : List Int) (rows : List (Int × Int)) (g k many : Int) (oc osd : Obj) (gl al : Value) (TT : List (Addr × Obj)) : Prop := ∀ (B : Below A₀ base outer h₀) (F : Fr h₀ L s.heap m) (X : (heapK w.params).In h₀) (T : Top p loose mean mg mb h₀) (hk : cs.kind = .function) (N : News h₀ L s.heap ((sd, osd) :: (pg, instObj 124 pd) :: (pd, pgD w.params t4 t5 t6 hl dc wl) :: (hl, listOf hs.toArray n1) :: (dc, oc) :: (wl, listOf ws.toArray n3) :: tl)) (hsd : Obj.IsDictOf (PySem.strKind prog w) osd (strPairs [(.str "plain" t1, .ref pg), (.str "gates" t2, gl), (.str "asleep" t3, al)])) (hhs : LReads TT hs (held.map enc1)) (hws : RowsIn enc1 TT ws rows) (hoc : TabO prog w enc1I TT oc nt cnt) (hT : ∀ p ∈ TT, p ∈ tl) (htt : TupTail TT) (lo : (dc == sysModules) = false) (hnd : [sd, pg, pd, hl, dc, wl].Nodup) (hsep : ∀ a ∈ [sd, pg, pd, hl, dc, wl], ∀ p ∈ tl, p.1 ≠ a) (hlen : hs.length ≤ 200) (hlen2 : ws.length ≤ 200) (hnt : nt ≤ 200) (hmem : held.contains k = true) (hdp : dp + 16 < recursionLimit) (hun : un + 90 < cLine) (ret : ∀ h' tk' l r us nr hs' n1' oc' nt' W ws' n3' ex, Fr h₀ L h' m →
      News h₀ L h' ((l, listOf #[.bool false, .ref r] 0) :: (r, listOf us.toArray nr) :: (sd, osd) :: (pg, instObj 124 pd) :: (pd, pgD w.params t4 t5 t6 hl dc W) :: (hl, listOf hs'.toArray n1') :: (dc, oc') :: (W, listOf ws'.toArray n3') :: tl) →
      RowsIn enc1 ex ws' (rows ++ [(k, g)]) → LReads ex hs' (List.map enc1 (held)) → TabO prog w enc1I ex oc' nt' (cnt) → (∀ p ∈ TT, p ∈ ex) → nt' ≤ nt + 1 → News h₀ L h' ex → TupTail ex → LReads [] us (List.map .int ([])) →
      New l [sd, pg, pd, hl, dc, wl] tl → New r [sd, pg, pd, hl, dc, wl] tl → l ≠ r → (W = wl ∨ New W [sd, pg, pd, hl, dc, wl] tl) → W ≠ l → W ≠ r → (∀ p ∈ ex, p ∈ TT ∨ New p.1 [sd, pg, pd, hl, dc, wl] tl) → Q (.ref l) { s with heap := h', toks := tk' }),
    wpAny (model prog w) (ktrTop dp un gd cn cs L a ccd cl outer) (call (.ref 270) [.ref sd, .int g tg, .str "lock" tw, .int k ta, .int many tm]) Q E s
def L_lock_held_P : TT → Prop := fun x => L_lock_held_S (y_prog x) (y_w x) (y_p x) (y_loose x) (y_mean x) (y_mg x) (y_mb x) (y_dp x) (y_un x) (y_gd x) (y_cn x) (y_cs x) (y_a x) (y_ccd x) (y_cl x) (y_outer x) (y_A₀ x) (y_base x) (y_h₀ x) (y_L x) (y_m x) (y_s x) (y_Q x) (y_E x) (y_tl x) (y_sd x) (y_pg x) (y_pd x) (y_hl x) (y_dc x) (y_wl x) (y_tg x) (y_ta x) (y_tm x) (y_tw x) (y_t1 x) (y_t2 x) (y_t3 x) (y_t4 x) (y_t5 x) (y_t6 x) (y_nt x) (y_n1 x) (y_n3 x) (y_cnt x) (y_hs x) (y_ws x) (y_held x) (y_rows x) (y_g x) (y_k x) (y_many x) (y_oc x) (y_osd x) (y_gl_ x) (y_al x) (y_TT x)
def L_wait_zero_S (prog : Program) (w : World) (p : Program) (loose : List Str) (mean : ExcName → Option Value) (mg mb : Str → Option Value) (dp un : Nat) (gd : Option (List Code)) (cn : Str) (cs : Scope) (a : Addr) (ccd : Value) (cl : List (Str × Addr)) (outer : List Env) (A₀ : Around) (base h₀ : Heap) (L : Addr) (m : Str → Option Value) (s : Shared) (Q E : Value → Shared → Prop) (tl : List (Addr × Obj)) (sd pg pd hl dc wl : Addr) (tg ta tm tw t1 t2 t3 t4 t5 t6 : Tok) (nt n1 n3 : Nat) (cnt : Int → Int) (hs ws : List Value) (held : List Int) (rows : List (Int × Int)) (g k many : Int) (oc osd : Obj) (gl al : Value) (TT : List (Addr × Obj)) : Prop := ∀ (B : Below A₀ base outer h₀) (F : Fr h₀ L s.heap m) (X : (heapK w.params).In h₀) (T : Top p loose mean mg mb h₀) (hk : cs.kind = .function) (N : News h₀ L s.heap ((sd, osd) :: (pg, instObj 124 pd) :: (pd, pgD w.params t4 t5 t6 hl dc wl) :: (hl, listOf hs.toArray n1) :: (dc, oc) :: (wl, listOf ws.toArray n3) :: tl)) (hsd : Obj.IsDictOf (PySem.strKind prog w) osd (strPairs [(.str "plain" t1, .ref pg), (.str "gates" t2, gl), (.str "asleep" t3, al)])) (hhs : LReads TT hs (held.map enc1)) (hws : RowsIn enc1 TT ws rows) (hoc : TabO prog w enc1I TT oc nt cnt) (hT : ∀ p ∈ TT, p ∈ tl) (htt : TupTail TT) (lo : (dc == sysModules) = false) (hnd : [sd, pg, pd, hl, dc, wl].Nodup) (hsep : ∀ a ∈ [sd, pg, pd, hl, dc, wl], ∀ p ∈ tl, p.1 ≠ a) (hlen : hs.length ≤ 200) (hlen2 : ws.length ≤ 200) (hnt : nt ≤ 200) (hz : cnt k = 0) (hdp : dp + 16 < recursionLimit) (hun : un + 90 < cLine) (ret : ∀ h' tk' l r us nr hs' n1' oc' nt' W ws' n3' ex, Fr h₀ L h' m →
      News h₀ L h' ((l, listOf #[.bool true, .ref r] 0) :: (r, listOf us.toArray nr) :: (sd, osd) :: (pg, instObj 124 pd) :: (pd, pgD w.params t4 t5 t6 hl dc W) :: (hl, listOf hs'.toArray n1') :: (dc, oc') :: (W, listOf ws'.toArray n3') :: tl) →
      RowsIn enc1 ex ws' (rows) → LReads ex hs' (List.map enc1 (held)) → TabO prog w enc1I ex oc' nt' (cnt) → (∀ p ∈ TT, p ∈ ex) → nt' ≤ nt + 1 → News h₀ L h' ex → TupTail ex → LReads [] us (List.map .int ([])) →
      New l [sd, pg, pd, hl, dc, wl] tl → New r [sd, pg, pd, hl, dc, wl] tl → l ≠ r → (W = wl ∨ New W [sd, pg, pd, hl, dc, wl] tl) → W ≠ l → W ≠ r → (∀ p ∈ ex, p ∈ TT ∨ New p.1 [sd, pg, pd, hl, dc, wl] tl) → Q (.ref l) { s with heap := h', toks := tk' }),
    wpAny (model prog w) (ktrTop dp un gd cn cs L a ccd cl outer) (call (.ref 270) [.ref sd, .int g tg, .str "wait" tw, .int k ta, .int many tm]) Q E s
def L_wait_zero_P : TT → Prop := fun x => L_wait_zero_S (y_prog x) (y_w x) (y_p x) (y_loose x) (y_mean x) (y_mg x) (y_mb x) (y_dp x) (y_un x) (y_gd x) (y_cn x) (y_cs x) (y_a x) (y_ccd x) (y_cl x) (y_outer x) (y_A₀ x) (y_base x) (y_h₀ x) (y_L x) (y_m x) (y_s x) (y_Q x) (y_E x) (y_tl x) (y_sd x) (y_pg x) (y_pd x) (y_hl x) (y_dc x) (y_wl x) (y_tg x) (y_ta x) (y_tm x) (y_tw x) (y_t1 x) (y_t2 x) (y_t3 x) (y_t4 x) (y_t5 x) (y_t6 x) (y_nt x) (y_n1 x) (y_n3 x) (y_cnt x) (y_hs x) (y_ws x) (y_held x) (y_rows x) (y_g x) (y_k x) (y_many x) (y_oc x) (y_osd x) (y_gl_ x) (y_al x) (y_TT x)
def L_wait_non_S (prog : Program) (w : World) (p : Program) (loose : List Str) (mean : ExcName → Option Value) (mg mb : Str → Option Value) (dp un : Nat) (gd : Option (List Code)) (cn : Str) (cs : Scope) (a : Addr) (ccd : Value) (cl : List (Str × Addr)) (outer : List Env) (A₀ : Around) (base h₀ : Heap) (L : Addr) (m : Str → Option Value) (s : Shared) (Q E : Value → Shared → Prop) (tl : List (Addr × Obj)) (sd pg pd hl dc wl : Addr) (tg ta tm tw t1 t2 t3 t4 t5 t6 : Tok) (nt n1 n3 : Nat) (cnt : Int → Int) (hs ws : List Value) (held : List Int) (rows : List (Int × Int)) (g k many : Int) (oc osd : Obj) (gl al : Value) (TT : List (Addr × Obj)) : Prop := ∀ (B : Below A₀ base outer h₀) (F : Fr h₀ L s.heap m) (X : (heapK w.params).In h₀) (T : Top p loose mean mg mb h₀) (hk : cs.kind = .function) (N : News h₀ L s.heap ((sd, osd) :: (pg, instObj 124 pd) :: (pd, pgD w.params t4 t5 t6 hl dc wl) :: (hl, listOf hs.toArray n1) :: (dc, oc) :: (wl, listOf ws.toArray n3) :: tl)) (hsd : Obj.IsDictOf (PySem.strKind prog w) osd (strPairs [(.str "plain" t1, .ref pg), (.str "gates" t2, gl), (.str "asleep" t3, al)])) (hhs : LReads TT hs (held.map enc1)) (hws : RowsIn enc1 TT ws rows) (hoc : TabO prog w enc1I TT oc nt cnt) (hT : ∀ p ∈ TT, p ∈ tl) (htt : TupTail TT) (lo : (dc == sysModules) = false) (hnd : [sd, pg, pd, hl, dc, wl].Nodup) (hsep : ∀ a ∈ [sd, pg, pd, hl, dc, wl], ∀ p ∈ tl, p.1 ≠ a) (hlen : hs.length ≤ 200) (hlen2 : ws.length ≤ 200) (hnt : nt ≤ 200) (hz : ¬ cnt k = 0) (hdp : dp + 16 < recursionLimit) (hun : un + 90 < cLine) (ret : ∀ h' tk' l r us nr hs' n1' oc' nt' W ws' n3' ex, Fr h₀ L h' m →
      News h₀ L h' ((l, listOf #[.bool false, .ref r] 0) :: (r, listOf us.toArray nr) :: (sd, osd) :: (pg, instObj 124 pd) :: (pd, pgD w.params t4 t5 t6 hl dc W) :: (hl, listOf hs'.toArray n1') :: (dc, oc') :: (W, listOf ws'.toArray n3') :: tl) →
      RowsIn enc1 ex ws' (rows ++ [(k, g)]) → LReads ex hs' (List.map enc1 (held)) → TabO prog w enc1I ex oc' nt' (cnt) → (∀ p ∈ TT, p ∈ ex) → nt' ≤ nt + 1 → News h₀ L h' ex → TupTail ex → LReads [] us (List.map .int ([])) →
      New l [sd, pg, pd, hl, dc, wl] tl → New r [sd, pg, pd, hl, dc, wl] tl → l ≠ r → (W = wl ∨ New W [sd, pg, pd, hl, dc, wl] tl) → W ≠ l → W ≠ r → (∀ p ∈ ex, p ∈ TT ∨ New p.1 [sd, pg, pd, hl, dc, wl] tl) → Q (.ref l) { s with heap := h', toks := tk' }),
    wpAny (model prog w) (ktrTop dp un gd cn cs L a ccd cl outer) (call (.ref 270) [.ref sd, .int g tg, .str "wait" tw, .int k ta, .int many tm]) Q E s
def L_wait_non_P : TT → Prop := fun x => L_wait_non_S (y_prog x) (y_w x) (y_p x) (y_loose x) (y_mean x) (y_mg x) (y_mb x) (y_dp x) (y_un x) (y_gd x) (y_cn x) (y_cs x) (y_a x) (y_ccd x) (y_cl x) (y_outer x) (y_A₀ x) (y_base x) (y_h₀ x) (y_L x) (y_m x) (y_s x) (y_Q x) (y_E x) (y_tl x) (y_sd x) (y_pg x) (y_pd x) (y_hl x) (y_dc x) (y_wl x) (y_tg x) (y_ta x) (y_tm x) (y_tw x) (y_t1 x) (y_t2 x) (y_t3 x) (y_t4 x) (y_t5 x) (y_t6 x) (y_nt x) (y_n1 x) (y_n3 x) (y_cnt x) (y_hs x) (y_ws x) (y_held x) (y_rows x) (y_g x) (y_k x) (y_many x) (y_oc x) (y_osd x) (y_gl_ x) (y_al x) (y_TT x)
def L_unl_bad_S (prog : Program) (w : World) (p : Program) (loose : List Str) (mean : ExcName → Option Value) (mg mb : Str → Option Value) (dp un : Nat) (gd : Option (List Code)) (cn : Str) (cs : Scope) (a : Addr) (ccd : Value) (cl : List (Str × Addr)) (outer : List Env) (A₀ : Around) (base h₀ : Heap) (L : Addr) (m : Str → Option Value) (s : Shared) (Q E : Value → Shared → Prop) (tl : List (Addr × Obj)) (sd pg pd hl dc wl : Addr) (tg ta tm tw t1 t2 t3 t4 t5 t6 : Tok) (nt n1 n3 : Nat) (cnt : Int → Int) (hs ws : List Value) (held : List Int) (rows : List (Int × Int)) (g k many : Int) (oc osd : Obj) (gl al : Value) (TT : List (Addr × Obj)) : Prop := ∀ (B : Below A₀ base outer h₀) (F : Fr h₀ L s.heap m) (X : (heapK w.params).In h₀) (T : Top p loose mean mg mb h₀) (hk : cs.kind = .function) (N : News h₀ L s.heap ((sd, osd) :: (pg, instObj 124 pd) :: (pd, pgD w.params t4 t5 t6 hl dc wl) :: (hl, listOf hs.toArray n1) :: (dc, oc) :: (wl, listOf ws.toArray n3) :: tl)) (hsd : Obj.IsDictOf (PySem.strKind prog w) osd (strPairs [(.str "plain" t1, .ref pg), (.str "gates" t2, gl), (.str "asleep" t3, al)])) (hhs : LReads TT hs (held.map enc1)) (hws : RowsIn enc1 TT ws rows) (hoc : TabO prog w enc1I TT oc nt cnt) (hT : ∀ p ∈ TT, p ∈ tl) (htt : TupTail TT) (lo : (dc == sysModules) = false) (hnd : [sd, pg, pd, hl, dc, wl].Nodup) (hsep : ∀ a ∈ [sd, pg, pd, hl, dc, wl], ∀ p ∈ tl, p.1 ≠ a) (hlen : hs.length ≤ 200) (hlen2 : ws.length ≤ 200) (hnt : nt ≤ 200) (hmem : held.contains k = false) (hdp : dp + 16 < recursionLimit) (hun : un + 90 < cLine) (ret : ∀ g' h' tk' e d D ta tb tc va vb u1 u2, Fr h₀ L g' m → RaisedE base g' (envX cn cs L a ccd cl :: outer) e (.ref 71) d ((d, dictOf [tyKey w.params "message" ta va, tyKey w.params "spot" tb vb, tyKey w.params "value" tc (.ref D)] 3) ::
      (D, { cls := .type "tuple", data := .seq #[.str "face" u1, .ref 74, .bytes (asciiB txU) u2] }) :: ((sd, osd) :: (pg, instObj 124 pd) :: (pd, pgD w.params t4 t5 t6 hl dc wl) :: (hl, listOf hs.toArray n1) :: (dc, oc) :: (wl, listOf ws.toArray n3) :: tl)) h' → g'.UpToSlots h' → E (.ref e) { s with heap := h', toks := tk' }),
    wpAny (model prog w) (ktrTop dp un gd cn cs L a ccd cl outer) (call (.ref 270) [.ref sd, .int g tg, .str "unlock" tw, .int k ta, .int many tm]) Q E s
def L_unl_bad_P : TT → Prop := fun x => L_unl_bad_S (y_prog x) (y_w x) (y_p x) (y_loose x) (y_mean x) (y_mg x) (y_mb x) (y_dp x) (y_un x) (y_gd x) (y_cn x) (y_cs x) (y_a x) (y_ccd x) (y_cl x) (y_outer x) (y_A₀ x) (y_base x) (y_h₀ x) (y_L x) (y_m x) (y_s x) (y_Q x) (y_E x) (y_tl x) (y_sd x) (y_pg x) (y_pd x) (y_hl x) (y_dc x) (y_wl x) (y_tg x) (y_ta x) (y_tm x) (y_tw x) (y_t1 x) (y_t2 x) (y_t3 x) (y_t4 x) (y_t5 x) (y_t6 x) (y_nt x) (y_n1 x) (y_n3 x) (y_cnt x) (y_hs x) (y_ws x) (y_held x) (y_rows x) (y_g x) (y_k x) (y_many x) (y_oc x) (y_osd x) (y_gl_ x) (y_al x) (y_TT x)
def L_unl_none_S (prog : Program) (w : World) (p : Program) (loose : List Str) (mean : ExcName → Option Value) (mg mb : Str → Option Value) (dp un : Nat) (gd : Option (List Code)) (cn : Str) (cs : Scope) (a : Addr) (ccd : Value) (cl : List (Str × Addr)) (outer : List Env) (A₀ : Around) (base h₀ : Heap) (L : Addr) (m : Str → Option Value) (s : Shared) (Q E : Value → Shared → Prop) (tl : List (Addr × Obj)) (sd pg pd hl dc wl : Addr) (tg ta tm tw t1 t2 t3 t4 t5 t6 : Tok) (nt n1 n3 : Nat) (cnt : Int → Int) (hs ws : List Value) (held : List Int) (rows : List (Int × Int)) (g k many : Int) (oc osd : Obj) (gl al : Value) (TT : List (Addr × Obj)) : Prop := ∀ (B : Below A₀ base outer h₀) (F : Fr h₀ L s.heap m) (X : (heapK w.params).In h₀) (T : Top p loose mean mg mb h₀) (hk : cs.kind = .function) (N : News h₀ L s.heap ((sd, osd) :: (pg, instObj 124 pd) :: (pd, pgD w.params t4 t5 t6 hl dc wl) :: (hl, listOf hs.toArray n1) :: (dc, oc) :: (wl, listOf ws.toArray n3) :: tl)) (hsd : Obj.IsDictOf (PySem.strKind prog w) osd (strPairs [(.str "plain" t1, .ref pg), (.str "gates" t2, gl), (.str "asleep" t3, al)])) (hhs : LReads TT hs (held.map enc1)) (hws : RowsIn enc1 TT ws rows) (hoc : TabO prog w enc1I TT oc nt cnt) (hT : ∀ p ∈ TT, p ∈ tl) (htt : TupTail TT) (lo : (dc == sysModules) = false) (hnd : [sd, pg, pd, hl, dc, wl].Nodup) (hsep : ∀ a ∈ [sd, pg, pd, hl, dc, wl], ∀ p ∈ tl, p.1 ≠ a) (hlen : hs.length ≤ 200) (hlen2 : ws.length ≤ 200) (hnt : nt ≤ 200) (hmem : held.contains k = true) (hno : ∀ r ∈ rows, r.1 ≠ k) (hdp : dp + 16 < recursionLimit) (hun : un + 90 < cLine) (ret : ∀ h' tk' l r us nr hs' n1' oc' nt' W ws' n3' ex, Fr h₀ L h' m →
      News h₀ L h' ((l, listOf #[.bool true, .ref r] 0) :: (r, listOf us.toArray nr) :: (sd, osd) :: (pg, instObj 124 pd) :: (pd, pgD w.params t4 t5 t6 hl dc W) :: (hl, listOf hs'.toArray n1') :: (dc, oc') :: (W, listOf ws'.toArray n3') :: tl) →
      RowsIn enc1 ex ws' (rows) → LReads ex hs' (List.map enc1 (held.eraseIdx (held.idxOf k))) → TabO prog w enc1I ex oc' nt' (cnt) → (∀ p ∈ TT, p ∈ ex) → nt' ≤ nt + 1 → News h₀ L h' ex → TupTail ex → LReads [] us (List.map .int ([])) →
      New l [sd, pg, pd, hl, dc, wl] tl → New r [sd, pg, pd, hl, dc, wl] tl → l ≠ r → (W = wl ∨ New W [sd, pg, pd, hl, dc, wl] tl) → W ≠ l → W ≠ r → (∀ p ∈ ex, p ∈ TT ∨ New p.1 [sd, pg, pd, hl, dc, wl] tl) → Q (.ref l) { s with heap := h', toks := tk' }),
    wpAny (model prog w) (ktrTop dp un gd cn cs L a ccd cl outer) (call (.ref 270) [.ref sd, .int g tg, .str "unlock" tw, .int k ta, .int many tm]) Q E s
def L_unl_none_P : TT → Prop := fun x => L_unl_none_S (y_prog x) (y_w x) (y_p x) (y_loose x) (y_mean x) (y_mg x) (y_mb x) (y_dp x) (y_un x) (y_gd x) (y_cn x) (y_cs x) (y_a x) (y_ccd x) (y_cl x) (y_outer x) (y_A₀ x) (y_base x) (y_h₀ x) (y_L x) (y_m x) (y_s x) (y_Q x) (y_E x) (y_tl x) (y_sd x) (y_pg x) (y_pd x) (y_hl x) (y_dc x) (y_wl x) (y_tg x) (y_ta x) (y_tm x) (y_tw x) (y_t1 x) (y_t2 x) (y_t3 x) (y_t4 x) (y_t5 x) (y_t6 x) (y_nt x) (y_n1 x) (y_n3 x) (y_cnt x) (y_hs x) (y_ws x) (y_held x) (y_rows x) (y_g x) (y_k x) (y_many x) (y_oc x) (y_osd x) (y_gl_ x) (y_al x) (y_TT x)
def L_unl_first_S (prog : Program) (w : World) (p : Program) (loose : List Str) (mean : ExcName → Option Value) (mg mb : Str → Option Value) (dp un : Nat) (gd : Option (List Code)) (cn : Str) (cs : Scope) (a : Addr) (ccd : Value) (cl : List (Str × Addr)) (outer : List Env) (A₀ : Around) (base h₀ : Heap) (L : Addr) (m : Str → Option Value) (s : Shared) (Q E : Value → Shared → Prop) (tl : List (Addr × Obj)) (sd pg pd hl dc wl : Addr) (tg ta tm tw t1 t2 t3 t4 t5 t6 : Tok) (nt n1 n3 : Nat) (cnt : Int → Int) (hs ws : List Value) (held : List Int) (rows : List (Int × Int)) (g k many : Int) (oc osd : Obj) (gl al : Value) (TT : List (Addr × Obj)) (q : Int) (pre post : List (Int × Int)) : Prop := ∀ (B : Below A₀ base outer h₀) (F : Fr h₀ L s.heap m) (X : (heapK w.params).In h₀) (T : Top p loose mean mg mb h₀) (hk : cs.kind = .function) (N : News h₀ L s.heap ((sd, osd) :: (pg, instObj 124 pd) :: (pd, pgD w.params t4 t5 t6 hl dc wl) :: (hl, listOf hs.toArray n1) :: (dc, oc) :: (wl, listOf ws.toArray n3) :: tl)) (hsd : Obj.IsDictOf (PySem.strKind prog w) osd (strPairs [(.str "plain" t1, .ref pg), (.str "gates" t2, gl), (.str "asleep" t3, al)])) (hhs : LReads TT hs (held.map enc1)) (hws : RowsIn enc1 TT ws rows) (hoc : TabO prog w enc1I TT oc nt cnt) (hT : ∀ p ∈ TT, p ∈ tl) (htt : TupTail TT) (lo : (dc == sysModules) = false) (hnd : [sd, pg, pd, hl, dc, wl].Nodup) (hsep : ∀ a ∈ [sd, pg, pd, hl, dc, wl], ∀ p ∈ tl, p.1 ≠ a) (hlen : hs.length ≤ 200) (hlen2 : ws.length ≤ 200) (hnt : nt ≤ 200) (hmem : held.contains k = true) (hrows : rows = pre ++ (k, q) :: post) (hno : ∀ r ∈ pre, r.1 ≠ k) (hdp : dp + 16 < recursionLimit) (hun : un + 90 < cLine) (ret : ∀ h' tk' l r us nr hs' n1' oc' nt' W ws' n3' ex, Fr h₀ L h' m →
      News h₀ L h' ((l, listOf #[.bool true, .ref r] 0) :: (r, listOf us.toArray nr) :: (sd, osd) :: (pg, instObj 124 pd) :: (pd, pgD w.params t4 t5 t6 hl dc W) :: (hl, listOf hs'.toArray n1') :: (dc, oc') :: (W, listOf ws'.toArray n3') :: tl) →
      RowsIn enc1 ex ws' (rows.eraseIdx pre.length) → LReads ex hs' (List.map enc1 (held)) → TabO prog w enc1I ex oc' nt' (cnt) → (∀ p ∈ TT, p ∈ ex) → nt' ≤ nt + 1 → News h₀ L h' ex → TupTail ex → LReads [] us (List.map .int ([q])) →
      New l [sd, pg, pd, hl, dc, wl] tl → New r [sd, pg, pd, hl, dc, wl] tl → l ≠ r → (W = wl ∨ New W [sd, pg, pd, hl, dc, wl] tl) → W ≠ l → W ≠ r → (∀ p ∈ ex, p ∈ TT ∨ New p.1 [sd, pg, pd, hl, dc, wl] tl) → Q (.ref l) { s with heap := h', toks := tk' }),
    wpAny (model prog w) (ktrTop dp un gd cn cs L a ccd cl outer) (call (.ref 270) [.ref sd, .int g tg, .str "unlock" tw, .int k ta, .int many tm]) Q E s
def L_unl_first_P : TT → Prop := fun x => L_unl_first_S (y_prog x) (y_w x) (y_p x) (y_loose x) (y_mean x) (y_mg x) (y_mb x) (y_dp x) (y_un x) (y_gd x) (y_cn x) (y_cs x) (y_a x) (y_ccd x) (y_cl x) (y_outer x) (y_A₀ x) (y_base x) (y_h₀ x) (y_L x) (y_m x) (y_s x) (y_Q x) (y_E x) (y_tl x) (y_sd x) (y_pg x) (y_pd x) (y_hl x) (y_dc x) (y_wl x) (y_tg x) (y_ta x) (y_tm x) (y_tw x) (y_t1 x) (y_t2 x) (y_t3 x) (y_t4 x) (y_t5 x) (y_t6 x) (y_nt x) (y_n1 x) (y_n3 x) (y_cnt x) (y_hs x) (y_ws x) (y_held x) (y_rows x) (y_g x) (y_k x) (y_many x) (y_oc x) (y_osd x) (y_gl_ x) (y_al x) (y_TT x) (y_q_ x) (y_pre x) (y_post x)
def L_add_neg_S (prog : Program) (w : World) (p : Program) (loose : List Str) (mean : ExcName → Option Value) (mg mb : Str → Option Value) (dp un : Nat) (gd : Option (List Code)) (cn : Str) (cs : Scope) (a : Addr) (ccd : Value) (cl : List (Str × Addr)) (outer : List Env) (A₀ : Around) (base h₀ : Heap) (L : Addr) (m : Str → Option Value) (s : Shared) (Q E : Value → Shared → Prop) (tl : List (Addr × Obj)) (sd pg pd hl dc wl : Addr) (tg ta tm tw t1 t2 t3 t4 t5 t6 : Tok) (nt n1 n3 : Nat) (cnt : Int → Int) (hs ws : List Value) (held : List Int) (rows : List (Int × Int)) (g k many : Int) (oc osd : Obj) (gl al : Value) (TT : List (Addr × Obj)) : Prop := ∀ (B : Below A₀ base outer h₀) (F : Fr h₀ L s.heap m) (X : (heapK w.params).In h₀) (T : Top p loose mean mg mb h₀) (hk : cs.kind = .function) (N : News h₀ L s.heap ((sd, osd) :: (pg, instObj 124 pd) :: (pd, pgD w.params t4 t5 t6 hl dc wl) :: (hl, listOf hs.toArray n1) :: (dc, oc) :: (wl, listOf ws.toArray n3) :: tl)) (hsd : Obj.IsDictOf (PySem.strKind prog w) osd (strPairs [(.str "plain" t1, .ref pg), (.str "gates" t2, gl), (.str "asleep" t3, al)])) (hhs : LReads TT hs (held.map enc1)) (hws : RowsIn enc1 TT ws rows) (hoc : TabO prog w enc1I TT oc nt cnt) (hT : ∀ p ∈ TT, p ∈ tl) (htt : TupTail TT) (lo : (dc == sysModules) = false) (hnd : [sd, pg, pd, hl, dc, wl].Nodup) (hsep : ∀ a ∈ [sd, pg, pd, hl, dc, wl], ∀ p ∈ tl, p.1 ≠ a) (hlen : hs.length ≤ 200) (hlen2 : ws.length ≤ 200) (hnt : nt ≤ 200) (hz : cnt k + many < 0) (hdp : dp + 16 < recursionLimit) (hun : un + 90 < cLine) (ret : ∀ g' h' tk' e d D ta tb tc va vb u1 u2, Fr h₀ L g' m → RaisedE base g' (envX cn cs L a ccd cl :: outer) e (.ref 71) d ((d, dictOf [tyKey w.params "message" ta va, tyKey w.params "spot" tb vb, tyKey w.params "value" tc (.ref D)] 3) ::
      (D, { cls := .type "tuple", data := .seq #[.str "face" u1, .ref 74, .bytes (asciiB txN) u2] }) :: ((sd, osd) :: (pg, instObj 124 pd) :: (pd, pgD w.params t4 t5 t6 hl dc wl) :: (hl, listOf hs.toArray n1) :: (dc, oc) :: (wl, listOf ws.toArray n3) :: tl)) h' → g'.UpToSlots h' → E (.ref e) { s with heap := h', toks := tk' }),
    wpAny (model prog w) (ktrTop dp un gd cn cs L a ccd cl outer) (call (.ref 270) [.ref sd, .int g tg, .str "add" tw, .int k ta, .int many tm]) Q E s
def L_add_neg_P : TT → Prop := fun x => L_add_neg_S (y_prog x) (y_w x) (y_p x) (y_loose x) (y_mean x) (y_mg x) (y_mb x) (y_dp x) (y_un x) (y_gd x) (y_cn x) (y_cs x) (y_a x) (y_ccd x) (y_cl x) (y_outer x) (y_A₀ x) (y_base x) (y_h₀ x) (y_L x) (y_m x) (y_s x) (y_Q x) (y_E x) (y_tl x) (y_sd x) (y_pg x) (y_pd x) (y_hl x) (y_dc x) (y_wl x) (y_tg x) (y_ta x) (y_tm x) (y_tw x) (y_t1 x) (y_t2 x) (y_t3 x) (y_t4 x) (y_t5 x) (y_t6 x) (y_nt x) (y_n1 x) (y_n3 x) (y_cnt x) (y_hs x) (y_ws x) (y_held x) (y_rows x) (y_g x) (y_k x) (y_many x) (y_oc x) (y_osd x) (y_gl_ x) (y_al x) (y_TT x)
def L_add_pos_S (prog : Program) (w : World) (p : Program) (loose : List Str) (mean : ExcName → Option Value) (mg mb : Str → Option Value) (dp un : Nat) (gd : Option (List Code)) (cn : Str) (cs : Scope) (a : Addr) (ccd : Value) (cl : List (Str × Addr)) (outer : List Env) (A₀ : Around) (base h₀ : Heap) (L : Addr) (m : Str → Option Value) (s : Shared) (Q E : Value → Shared → Prop) (tl : List (Addr × Obj)) (sd pg pd hl dc wl : Addr) (tg ta tm tw t1 t2 t3 t4 t5 t6 : Tok) (nt n1 n3 : Nat) (cnt : Int → Int) (hs ws : List Value) (held : List Int) (rows : List (Int × Int)) (g k many : Int) (oc osd : Obj) (gl al : Value) (TT : List (Addr × Obj)) : Prop := ∀ (B : Below A₀ base outer h₀) (F : Fr h₀ L s.heap m) (X : (heapK w.params).In h₀) (T : Top p loose mean mg mb h₀) (hk : cs.kind = .function) (N : News h₀ L s.heap ((sd, osd) :: (pg, instObj 124 pd) :: (pd, pgD w.params t4 t5 t6 hl dc wl) :: (hl, listOf hs.toArray n1) :: (dc, oc) :: (wl, listOf ws.toArray n3) :: tl)) (hsd : Obj.IsDictOf (PySem.strKind prog w) osd (strPairs [(.str "plain" t1, .ref pg), (.str "gates" t2, gl), (.str "asleep" t3, al)])) (hhs : LReads TT hs (held.map enc1)) (hws : RowsIn enc1 TT ws rows) (hoc : TabO prog w enc1I TT oc nt cnt) (hT : ∀ p ∈ TT, p ∈ tl) (htt : TupTail TT) (lo : (dc == sysModules) = false) (hnd : [sd, pg, pd, hl, dc, wl].Nodup) (hsep : ∀ a ∈ [sd, pg, pd, hl, dc, wl], ∀ p ∈ tl, p.1 ≠ a) (hlen : hs.length ≤ 200) (hlen2 : ws.length ≤ 200) (hnt : nt ≤ 200) (hz : ¬ cnt k + many < 0) (hz2 : 0 < cnt k + many) (hdp : dp + 16 < recursionLimit) (hun : un + 90 < cLine) (ret : ∀ h' tk' l r us nr hs' n1' oc' nt' W ws' n3' ex, Fr h₀ L h' m →
      News h₀ L h' ((l, listOf #[.bool true, .ref r] 0) :: (r, listOf us.toArray nr) :: (sd, osd) :: (pg, instObj 124 pd) :: (pd, pgD w.params t4 t5 t6 hl dc W) :: (hl, listOf hs'.toArray n1') :: (dc, oc') :: (W, listOf ws'.toArray n3') :: tl) →
      RowsIn enc1 ex ws' (rows) → LReads ex hs' (List.map enc1 (held)) → TabO prog w enc1I ex oc' nt' (fun j => if j = k then cnt k + many else cnt j) → (∀ p ∈ TT, p ∈ ex) → nt' ≤ nt + 1 → News h₀ L h' ex → TupTail ex → LReads [] us (List.map .int ([])) →
      New l [sd, pg, pd, hl, dc, wl] tl → New r [sd, pg, pd, hl, dc, wl] tl → l ≠ r → (W = wl ∨ New W [sd, pg, pd, hl, dc, wl] tl) → W ≠ l → W ≠ r → (∀ p ∈ ex, p ∈ TT ∨ New p.1 [sd, pg, pd, hl, dc, wl] tl) → Q (.ref l) { s with heap := h', toks := tk' }),
    wpAny (model prog w) (ktrTop dp un gd cn cs L a ccd cl outer) (call (.ref 270) [.ref sd, .int g tg, .str "add" tw, .int k ta, .int many tm]) Q E s
def L_add_pos_P : TT → Prop := fun x => L_add_pos_S (y_prog x) (y_w x) (y_p x) (y_loose x) (y_mean x) (y_mg x) (y_mb x) (y_dp x) (y_un x) (y_gd x) (y_cn x) (y_cs x) (y_a x) (y_ccd x) (y_cl x) (y_outer x) (y_A₀ x) (y_base x) (y_h₀ x) (y_L x) (y_m x) (y_s x) (y_Q x) (y_E x) (y_tl x) (y_sd x) (y_pg x) (y_pd x) (y_hl x) (y_dc x) (y_wl x) (y_tg x) (y_ta x) (y_tm x) (y_tw x) (y_t1 x) (y_t2 x) (y_t3 x) (y_t4 x) (y_t5 x) (y_t6 x) (y_nt x) (y_n1 x) (y_n3 x) (y_cnt x) (y_hs x) (y_ws x) (y_held x) (y_rows x) (y_g x) (y_k x) (y_many x) (y_oc x) (y_osd x) (y_gl_ x) (y_al x) (y_TT x)
def L_add_zero_S (prog : Program) (w : World) (p : Program) (loose : List Str) (mean : ExcName → Option Value) (mg mb : Str → Option Value) (dp un : Nat) (gd : Option (List Code)) (cn : Str) (cs : Scope) (a : Addr) (ccd : Value) (cl : List (Str × Addr)) (outer : List Env) (A₀ : Around) (base h₀ : Heap) (L : Addr) (m : Str → Option Value) (s : Shared) (Q E : Value → Shared → Prop) (tl : List (Addr × Obj)) (sd pg pd hl dc wl : Addr) (tg ta tm tw t1 t2 t3 t4 t5 t6 : Tok) (nt n1 n3 : Nat) (cnt : Int → Int) (hs ws : List Value) (held : List Int) (rows : List (Int × Int)) (g k many : Int) (oc osd : Obj) (gl al : Value) (TT : List (Addr × Obj)) : Prop := ∀ (B : Below A₀ base outer h₀) (F : Fr h₀ L s.heap m) (X : (heapK w.params).In h₀) (T : Top p loose mean mg mb h₀) (hk : cs.kind = .function) (N : News h₀ L s.heap ((sd, osd) :: (pg, instObj 124 pd) :: (pd, pgD w.params t4 t5 t6 hl dc wl) :: (hl, listOf hs.toArray n1) :: (dc, oc) :: (wl, listOf ws.toArray n3) :: tl)) (hsd : Obj.IsDictOf (PySem.strKind prog w) osd (strPairs [(.str "plain" t1, .ref pg), (.str "gates" t2, gl), (.str "asleep" t3, al)])) (hhs : LReads TT hs (held.map enc1)) (hws : RowsIn enc1 TT ws rows) (hoc : TabO prog w enc1I TT oc nt cnt) (hT : ∀ p ∈ TT, p ∈ tl) (htt : TupTail TT) (lo : (dc == sysModules) = false) (hnd : [sd, pg, pd, hl, dc, wl].Nodup) (hsep : ∀ a ∈ [sd, pg, pd, hl, dc, wl], ∀ p ∈ tl, p.1 ≠ a) (hlen : hs.length ≤ 200) (hlen2 : ws.length ≤ 200) (hnt : nt ≤ 200) (hz : ¬ cnt k + many < 0) (hz2 : ¬ 0 < cnt k + many) (hdp : dp + 16 < recursionLimit) (hun : un + 90 < cLine) (ret : ∀ h' tk' l r us nr hs' n1' oc' nt' W ws' n3' ex, Fr h₀ L h' m →
      News h₀ L h' ((l, listOf #[.bool true, .ref r] 0) :: (r, listOf us.toArray nr) :: (sd, osd) :: (pg, instObj 124 pd) :: (pd, pgD w.params t4 t5 t6 hl dc W) :: (hl, listOf hs'.toArray n1') :: (dc, oc') :: (W, listOf ws'.toArray n3') :: tl) →
      RowsIn enc1 ex ws' (rows.filter (fun r => decide (r.1 ≠ k))) → LReads ex hs' (List.map enc1 (held)) → TabO prog w enc1I ex oc' nt' (fun j => if j = k then cnt k + many else cnt j) → (∀ p ∈ TT, p ∈ ex) → nt' ≤ nt + 1 → News h₀ L h' ex → TupTail ex → LReads [] us (List.map .int ((rows.filter (fun r => decide (r.1 = k))).map (·.2))) →
      New l [sd, pg, pd, hl, dc, wl] tl → New r [sd, pg, pd, hl, dc, wl] tl → l ≠ r → (W = wl ∨ New W [sd, pg, pd, hl, dc, wl] tl) → W ≠ l → W ≠ r → (∀ p ∈ ex, p ∈ TT ∨ New p.1 [sd, pg, pd, hl, dc, wl] tl) → Q (.ref l) { s with heap := h', toks := tk' }),
    wpAny (model prog w) (ktrTop dp un gd cn cs L a ccd cl outer) (call (.ref 270) [.ref sd, .int g tg, .str "add" tw, .int k ta, .int many tm]) Q E s
def L_add_zero_P : TT → Prop := fun x => L_add_zero_S (y_prog x) (y_w x) (y_p x) (y_loose x) (y_mean x) (y_mg x) (y_mb x) (y_dp x) (y_un x) (y_gd x) (y_cn x) (y_cs x) (y_a x) (y_ccd x) (y_cl x) (y_outer x) (y_A₀ x) (y_base x) (y_h₀ x) (y_L x) (y_m x) (y_s x) (y_Q x) (y_E x) (y_tl x) (y_sd x) (y_pg x) (y_pd x) (y_hl x) (y_dc x) (y_wl x) (y_tg x) (y_ta x) (y_tm x) (y_tw x) (y_t1 x) (y_t2 x) (y_t3 x) (y_t4 x) (y_t5 x) (y_t6 x) (y_nt x) (y_n1 x) (y_n3 x) (y_cnt x) (y_hs x) (y_ws x) (y_held x) (y_rows x) (y_g x) (y_k x) (y_many x) (y_oc x) (y_osd x) (y_gl_ x) (y_al x) (y_TT x)
def S_lock_free_S (prog : Program) (w : World) (p : Program) (loose : List Str) (mean : ExcName → Option Value) (mg mb : Str → Option Value) (dp un : Nat) (gd : Option (List Code)) (cn : Str) (cs : Scope) (a : Addr) (ccd : Value) (cl : List (Str × Addr)) (outer : List Env) (A₀ : Around) (base h₀ : Heap) (L : Addr) (m : Str → Option Value) (s : Shared) (Q E : Value → Shared → Prop) (tl : List (Addr × Obj)) (sd gl x xd wl : Addr) (tg ta tm tw t1 t2 t3 t4 t5 : Tok) (n ng : Nat) (vs gs : List Value) (q : List Int) (g many k : Int) (osd : Obj) (pv al : Value) : Prop := ∀ (B : Below A₀ base outer h₀) (F : Fr h₀ L s.heap m) (X : (heapK w.params).In h₀) (T : Top p loose mean mg mb h₀) (hk : cs.kind = .function) (N : News h₀ L s.heap ((sd, osd) :: (gl, listOf gs.toArray ng) :: (x, instObj 168 xd) :: (xd, dictOf [tyKey w.params "owner" t4 .none, tyKey w.params "waiting" t5 (.ref wl)] 2) :: (wl, listOf vs.toArray n) :: tl)) (hsd : Obj.IsDictOf (PySem.strKind prog w) osd (strPairs [(.str "plain" t1, pv), (.str "gates" t2, .ref gl), (.str "asleep" t3, al)])) (hq : LReads [] vs (q.map .int)) (hnd : [sd, gl, x, xd, wl].Nodup) (hsep : ∀ a ∈ [sd, gl, x, xd, wl], ∀ p ∈ tl, p.1 ≠ a) (hlen : vs.length ≤ 200) (hk0 : 0 ≤ k) (hk4 : k < 1000) (hgx : gs[k.toNat]? = some (.ref x)) (hdp : dp + 16 < recursionLimit) (hun : un + 90 < cLine) (ret : ∀ h' tk' l r us nr W vs' n' , Fr h₀ L h' m →
      News h₀ L h' ((l, listOf #[.bool true, .ref r] 0) :: (r, listOf us.toArray nr) :: ((sd, osd) :: (gl, listOf gs.toArray ng) :: (x, instObj 168 xd) :: (xd, dictOf [tyKey w.params "owner" t4 (.int g tg), tyKey w.params "waiting" t5 (.ref W)] 2) :: (W, listOf vs'.toArray n') :: tl)) →
      LReads [] vs' (List.map .int (q)) → LReads [] us (List.map .int ([])) → New l [sd, gl, x, xd, wl] tl → (r = wl ∨ New r [sd, gl, x, xd, wl] tl) → l ≠ r → (W = wl ∨ New W [sd, gl, x, xd, wl] tl) → W ≠ l → W ≠ r → Q (.ref l) { s with heap := h', toks := tk' }),
    wpAny (model prog w) (ktrTop dp un gd cn cs L a ccd cl outer) (call (.ref 263) [.ref sd, .int g tg, .str "lock" tw, .int k ta, .int many tm]) Q E s
def S_lock_free_P : TT → Prop := fun x => S_lock_free_S (y_prog x) (y_w x) (y_p x) (y_loose x) (y_mean x) (y_mg x) (y_mb x) (y_dp x) (y_un x) (y_gd x) (y_cn x) (y_cs x) (y_a x) (y_ccd x) (y_cl x) (y_outer x) (y_A₀ x) (y_base x) (y_h₀ x) (y_L x) (y_m x) (y_s x) (y_Q x) (y_E x) (y_tl x) (y_sd x) (y_gl x) (y_x x) (y_xd x) (y_wl x) (y_tg x) (y_ta x) (y_tm x) (y_tw x) (y_t1 x) (y_t2 x) (y_t3 x) (y_t4 x) (y_t5 x) (y_n x) (y_ng x) (y_vs x) (y_gs x) (y_q x) (y_g x) (y_many x) (y_k x) (y_osd x) (y_pv x) (y_al x)
def S_lock_held_S (prog : Program) (w : World) (p : Program) (loose : List Str) (mean : ExcName → Option Value) (mg mb : Str → Option Value) (dp un : Nat) (gd : Option (List Code)) (cn : Str) (cs : Scope) (a : Addr) (ccd : Value) (cl : List (Str × Addr)) (outer : List Env) (A₀ : Around) (base h₀ : Heap) (L : Addr) (m : Str → Option Value) (s : Shared) (Q E : Value → Shared → Prop) (tl : List (Addr × Obj)) (sd gl x xd wl : Addr) (tg ta tm tw t1 t2 t3 t4 t5 to : Tok) (n ng : Nat) (vs gs : List Value) (q : List Int) (g o many k : Int) (osd : Obj) (pv al : Value) : Prop := ∀ (B : Below A₀ base outer h₀) (F : Fr h₀ L s.heap m) (X : (heapK w.params).In h₀) (T : Top p loose mean mg mb h₀) (hk : cs.kind = .function) (N : News h₀ L s.heap ((sd, osd) :: (gl, listOf gs.toArray ng) :: (x, instObj 168 xd) :: (xd, dictOf [tyKey w.params "owner" t4 (.int o to), tyKey w.params "waiting" t5 (.ref wl)] 2) :: (wl, listOf vs.toArray n) :: tl)) (hsd : Obj.IsDictOf (PySem.strKind prog w) osd (strPairs [(.str "plain" t1, pv), (.str "gates" t2, .ref gl), (.str "asleep" t3, al)])) (hq : LReads [] vs (q.map .int)) (hnd : [sd, gl, x, xd, wl].Nodup) (hsep : ∀ a ∈ [sd, gl, x, xd, wl], ∀ p ∈ tl, p.1 ≠ a) (hlen : vs.length ≤ 200) (hk0 : 0 ≤ k) (hk4 : k < 1000) (hgx : gs[k.toNat]? = some (.ref x)) (hmem : q.contains g = false) (hdp : dp + 16 < recursionLimit) (hun : un + 90 < cLine) (ret : ∀ h' tk' l r us nr W vs' n' , Fr h₀ L h' m →
      News h₀ L h' ((l, listOf #[.bool false, .ref r] 0) :: (r, listOf us.toArray nr) :: ((sd, osd) :: (gl, listOf gs.toArray ng) :: (x, instObj 168 xd) :: (xd, dictOf [tyKey w.params "owner" t4 (.int o to), tyKey w.params "waiting" t5 (.ref W)] 2) :: (W, listOf vs'.toArray n') :: tl)) →
      LReads [] vs' (List.map .int (q ++ [g])) → LReads [] us (List.map .int ([])) → New l [sd, gl, x, xd, wl] tl → (r = wl ∨ New r [sd, gl, x, xd, wl] tl) → l ≠ r → (W = wl ∨ New W [sd, gl, x, xd, wl] tl) → W ≠ l → W ≠ r → Q (.ref l) { s with heap := h', toks := tk' }),
    wpAny (model prog w) (ktrTop dp un gd cn cs L a ccd cl outer) (call (.ref 263) [.ref sd, .int g tg, .str "lock" tw, .int k ta, .int many tm]) Q E s
def S_lock_held_P : TT → Prop := fun x => S_lock_held_S (y_prog x) (y_w x) (y_p x) (y_loose x) (y_mean x) (y_mg x) (y_mb x) (y_dp x) (y_un x) (y_gd x) (y_cn x) (y_cs x) (y_a x) (y_ccd x) (y_cl x) (y_outer x) (y_A₀ x) (y_base x) (y_h₀ x) (y_L x) (y_m x) (y_s x) (y_Q x) (y_E x) (y_tl x) (y_sd x) (y_gl x) (y_x x) (y_xd x) (y_wl x) (y_tg x) (y_ta x) (y_tm x) (y_tw x) (y_t1 x) (y_t2 x) (y_t3 x) (y_t4 x) (y_t5 x) (y_to x) (y_n x) (y_ng x) (y_vs x) (y_gs x) (y_q x) (y_g x) (y_o x) (y_many x) (y_k x) (y_osd x) (y_pv x) (y_al x)
def S_unl_bad_S (prog : Program) (w : World) (p : Program) (loose : List Str) (mean : ExcName → Option Value) (mg mb : Str → Option Value) (dp un : Nat) (gd : Option (List Code)) (cn : Str) (cs : Scope) (a : Addr) (ccd : Value) (cl : List (Str × Addr)) (outer : List Env) (A₀ : Around) (base h₀ : Heap) (L : Addr) (m : Str → Option Value) (s : Shared) (Q E : Value → Shared → Prop) (tl : List (Addr × Obj)) (sd gl x xd wl : Addr) (tg ta tm tw t1 t2 t3 t4 t5 : Tok) (n ng : Nat) (vs gs : List Value) (q : List Int) (g many k : Int) (osd : Obj) (pv al : Value) : Prop := ∀ (B : Below A₀ base outer h₀) (F : Fr h₀ L s.heap m) (X : (heapK w.params).In h₀) (T : Top p loose mean mg mb h₀) (hk : cs.kind = .function) (N : News h₀ L s.heap ((sd, osd) :: (gl, listOf gs.toArray ng) :: (x, instObj 168 xd) :: (xd, dictOf [tyKey w.params "owner" t4 .none, tyKey w.params "waiting" t5 (.ref wl)] 2) :: (wl, listOf vs.toArray n) :: tl)) (hsd : Obj.IsDictOf (PySem.strKind prog w) osd (strPairs [(.str "plain" t1, pv), (.str "gates" t2, .ref gl), (.str "asleep" t3, al)])) (hq : LReads [] vs (q.map .int)) (hnd : [sd, gl, x, xd, wl].Nodup) (hsep : ∀ a ∈ [sd, gl, x, xd, wl], ∀ p ∈ tl, p.1 ≠ a) (hlen : vs.length ≤ 200) (hk0 : 0 ≤ k) (hk4 : k < 1000) (hgx : gs[k.toNat]? = some (.ref x)) (hdp : dp + 16 < recursionLimit) (hun : un + 90 < cLine) (ret : ∀ g' h' tk' e d D ta tb tcc va vb u1 u2, Fr h₀ L g' m → RaisedE base g' (envX cn cs L a ccd cl :: outer) e (.ref 71) d ((d, dictOf [tyKey w.params "message" ta va, tyKey w.params "spot" tb vb, tyKey w.params "value" tcc (.ref D)] 3) ::
      (D, { cls := .type "tuple", data := .seq #[.str "face" u1, .ref 74, .bytes (asciiB txU) u2] }) :: ((sd, osd) :: (gl, listOf gs.toArray ng) :: (x, instObj 168 xd) :: (xd, dictOf [tyKey w.params "owner" t4 .none, tyKey w.params "waiting" t5 (.ref wl)] 2) :: (wl, listOf vs.toArray n) :: tl)) h' → g'.UpToSlots h' → E (.ref e) { s with heap := h', toks := tk' }),
    wpAny (model prog w) (ktrTop dp un gd cn cs L a ccd cl outer) (call (.ref 263) [.ref sd, .int g tg, .str "unlock" tw, .int k ta, .int many tm]) Q E s
def S_unl_bad_P : TT → Prop := fun x => S_unl_bad_S (y_prog x) (y_w x) (y_p x) (y_loose x) (y_mean x) (y_mg x) (y_mb x) (y_dp x) (y_un x) (y_gd x) (y_cn x) (y_cs x) (y_a x) (y_ccd x) (y_cl x) (y_outer x) (y_A₀ x) (y_base x) (y_h₀ x) (y_L x) (y_m x) (y_s x) (y_Q x) (y_E x) (y_tl x) (y_sd x) (y_gl x) (y_x x) (y_xd x) (y_wl x) (y_tg x) (y_ta x) (y_tm x) (y_tw x) (y_t1 x) (y_t2 x) (y_t3 x) (y_t4 x) (y_t5 x) (y_n x) (y_ng x) (y_vs x) (y_gs x) (y_q x) (y_g x) (y_many x) (y_k x) (y_osd x) (y_pv x) (y_al x)
def S_unl_none_S (prog : Program) (w : World) (p : Program) (loose : List Str) (mean : ExcName → Option Value) (mg mb : Str → Option Value) (dp un : Nat) (gd : Option (List Code)) (cn : Str) (cs : Scope) (a : Addr) (ccd : Value) (cl : List (Str × Addr)) (outer : List Env) (A₀ : Around) (base h₀ : Heap) (L : Addr) (m : Str → Option Value) (s : Shared) (Q E : Value → Shared → Prop) (tl : List (Addr × Obj)) (sd gl x xd wl : Addr) (tg ta tm tw t1 t2 t3 t4 t5 to : Tok) (n ng : Nat) (vs gs : List Value) (q : List Int) (g o many k : Int) (osd : Obj) (pv al : Value) : Prop := ∀ (B : Below A₀ base outer h₀) (F : Fr h₀ L s.heap m) (X : (heapK w.params).In h₀) (T : Top p loose mean mg mb h₀) (hk : cs.kind = .function) (N : News h₀ L s.heap ((sd, osd) :: (gl, listOf gs.toArray ng) :: (x, instObj 168 xd) :: (xd, dictOf [tyKey w.params "owner" t4 (.int o to), tyKey w.params "waiting" t5 (.ref wl)] 2) :: (wl, listOf ([] : List Value).toArray n) :: tl)) (hsd : Obj.IsDictOf (PySem.strKind prog w) osd (strPairs [(.str "plain" t1, pv), (.str "gates" t2, .ref gl), (.str "asleep" t3, al)])) (hq : LReads [] vs (q.map .int)) (hnd : [sd, gl, x, xd, wl].Nodup) (hsep : ∀ a ∈ [sd, gl, x, xd, wl], ∀ p ∈ tl, p.1 ≠ a) (hlen : vs.length ≤ 200) (hk0 : 0 ≤ k) (hk4 : k < 1000) (hgx : gs[k.toNat]? = some (.ref x)) (hvs : vs = []) (hdp : dp + 16 < recursionLimit) (hun : un + 90 < cLine) (ret : ∀ h' tk' l r us nr W vs' n' , Fr h₀ L h' m →
      News h₀ L h' ((l, listOf #[.bool true, .ref r] 0) :: (r, listOf us.toArray nr) :: ((sd, osd) :: (gl, listOf gs.toArray ng) :: (x, instObj 168 xd) :: (xd, dictOf [tyKey w.params "owner" t4 .none, tyKey w.params "waiting" t5 (.ref W)] 2) :: (W, listOf vs'.toArray n') :: tl)) →
      LReads [] vs' (List.map .int ([])) → LReads [] us (List.map .int ([])) → New l [sd, gl, x, xd, wl] tl → (r = wl ∨ New r [sd, gl, x, xd, wl] tl) → l ≠ r → (W = wl ∨ New W [sd, gl, x, xd, wl] tl) → W ≠ l → W ≠ r → Q (.ref l) { s with heap := h', toks := tk' }),
    wpAny (model prog w) (ktrTop dp un gd cn cs L a ccd cl outer) (call (.ref 263) [.ref sd, .int g tg, .str "unlock" tw, .int k ta, .int many tm]) Q E s
def S_unl_none_P : TT → Prop := fun x => S_unl_none_S (y_prog x) (y_w x) (y_p x) (y_loose x) (y_mean x) (y_mg x) (y_mb x) (y_dp x) (y_un x) (y_gd x) (y_cn x) (y_cs x) (y_a x) (y_ccd x) (y_cl x) (y_outer x) (y_A₀ x) (y_base x) (y_h₀ x) (y_L x) (y_m x) (y_s x) (y_Q x) (y_E x) (y_tl x) (y_sd x) (y_gl x) (y_x x) (y_xd x) (y_wl x) (y_tg x) (y_ta x) (y_tm x) (y_tw x) (y_t1 x) (y_t2 x) (y_t3 x) (y_t4 x) (y_t5 x) (y_to x) (y_n x) (y_ng x) (y_vs x) (y_gs x) (y_q x) (y_g x) (y_o x) (y_many x) (y_k x) (y_osd x) (y_pv x) (y_al x)
def S_unl_first_S (prog : Program) (w : World) (p : Program) (loose : List Str) (mean : ExcName → Option Value) (mg mb : Str → Option Value) (dp un : Nat) (gd : Option (List Code)) (cn : Str) (cs : Scope) (a : Addr) (ccd : Value) (cl : List (Str × Addr)) (outer : List Env) (A₀ : Around) (base h₀ : Heap) (L : Addr) (m : Str → Option Value) (s : Shared) (Q E : Value → Shared → Prop) (tl : List (Addr × Obj)) (sd gl x xd wl : Addr) (tg ta tm tw t1 t2 t3 t4 t5 to : Tok) (n ng : Nat) (vs gs : List Value) (q : List Int) (g o many k : Int) (osd : Obj) (pv al : Value) (r0 : Int) (qs : List Int) (tr : Tok) (us0 : List Value) : Prop := ∀ (B : Below A₀ base outer h₀) (F : Fr h₀ L s.heap m) (X : (heapK w.params).In h₀) (T : Top p loose mean mg mb h₀) (hk : cs.kind = .function) (N : News h₀ L s.heap ((sd, osd) :: (gl, listOf gs.toArray ng) :: (x, instObj 168 xd) :: (xd, dictOf [tyKey w.params "owner" t4 (.int o to), tyKey w.params "waiting" t5 (.ref wl)] 2) :: (wl, listOf vs.toArray n) :: tl)) (hsd : Obj.IsDictOf (PySem.strKind prog w) osd (strPairs [(.str "plain" t1, pv), (.str "gates" t2, .ref gl), (.str "asleep" t3, al)])) (hq : LReads [] vs (q.map .int)) (hnd : [sd, gl, x, xd, wl].Nodup) (hsep : ∀ a ∈ [sd, gl, x, xd, wl], ∀ p ∈ tl, p.1 ≠ a) (hlen : vs.length ≤ 200) (hk0 : 0 ≤ k) (hk4 : k < 1000) (hgx : gs[k.toNat]? = some (.ref x)) (hvs : vs = .int r0 tr :: us0) (hqe : q = r0 :: qs) (hqs : LReads [] us0 (List.map .int qs)) (hdp : dp + 16 < recursionLimit) (hun : un + 90 < cLine) (ret : ∀ h' tk' l r us nr W vs' n' , Fr h₀ L h' m →
      News h₀ L h' ((l, listOf #[.bool true, .ref r] 0) :: (r, listOf us.toArray nr) :: ((sd, osd) :: (gl, listOf gs.toArray ng) :: (x, instObj 168 xd) :: (xd, dictOf [tyKey w.params "owner" t4 (.int r0 tr), tyKey w.params "waiting" t5 (.ref W)] 2) :: (W, listOf vs'.toArray n') :: tl)) →
      LReads [] vs' (List.map .int (qs)) → LReads [] us (List.map .int ([r0])) → New l [sd, gl, x, xd, wl] tl → (r = wl ∨ New r [sd, gl, x, xd, wl] tl) → l ≠ r → (W = wl ∨ New W [sd, gl, x, xd, wl] tl) → W ≠ l → W ≠ r → Q (.ref l) { s with heap := h', toks := tk' }),
    wpAny (model prog w) (ktrTop dp un gd cn cs L a ccd cl outer) (call (.ref 263) [.ref sd, .int g tg, .str "unlock" tw, .int k ta, .int many tm]) Q E s
def S_unl_first_P : TT → Prop := fun x => S_unl_first_S (y_prog x) (y_w x) (y_p x) (y_loose x) (y_mean x) (y_mg x) (y_mb x) (y_dp x) (y_un x) (y_gd x) (y_cn x) (y_cs x) (y_a x) (y_ccd x) (y_cl x) (y_outer x) (y_A₀ x) (y_base x) (y_h₀ x) (y_L x) (y_m x) (y_s x) (y_Q x) (y_E x) (y_tl x) (y_sd x) (y_gl x) (y_x x) (y_xd x) (y_wl x) (y_tg x) (y_ta x) (y_tm x) (y_tw x) (y_t1 x) (y_t2 x) (y_t3 x) (y_t4 x) (y_t5 x) (y_to x) (y_n x) (y_ng x) (y_vs x) (y_gs x) (y_q x) (y_g x) (y_o x) (y_many x) (y_k x) (y_osd x) (y_pv x) (y_al x) (y_r0 x) (y_qs x) (y_tr x) (y_us0 x)
def S_add_neg_S (prog : Program) (w : World) (p : Program) (loose : List Str) (mean : ExcName → Option Value) (mg mb : Str → Option Value) (dp un : Nat) (gd : Option (List Code)) (cn : Str) (cs : Scope) (a : Addr) (ccd : Value) (cl : List (Str × Addr)) (outer : List Env) (A₀ : Around) (base h₀ : Heap) (L : Addr) (m : Str → Option Value) (s : Shared) (Q E : Value → Shared → Prop) (tl : List (Addr × Obj)) (sd gl x xd wl : Addr) (tg ta tm tw t1 t2 t3 t4 t5 tc : Tok) (n ng : Nat) (vs gs : List Value) (q : List Int) (g c many k : Int) (osd : Obj) (pv al : Value) : Prop := ∀ (B : Below A₀ base outer h₀) (F : Fr h₀ L s.heap m) (X : (heapK w.params).In h₀) (T : Top p loose mean mg mb h₀) (hk : cs.kind = .function) (N : News h₀ L s.heap ((sd, osd) :: (gl, listOf gs.toArray ng) :: (x, instObj 210 xd) :: (xd, dictOf [tyKey w.params "count" t4 (.int c tc), tyKey w.params "waiting" t5 (.ref wl)] 2) :: (wl, listOf vs.toArray n) :: tl)) (hsd : Obj.IsDictOf (PySem.strKind prog w) osd (strPairs [(.str "plain" t1, pv), (.str "gates" t2, .ref gl), (.str "asleep" t3, al)])) (hq : LReads [] vs (q.map .int)) (hnd : [sd, gl, x, xd, wl].Nodup) (hsep : ∀ a ∈ [sd, gl, x, xd, wl], ∀ p ∈ tl, p.1 ≠ a) (hlen : vs.length ≤ 200) (hk0 : 0 ≤ k) (hk4 : k < 1000) (hgx : gs[k.toNat]? = some (.ref x)) (hz : c + many < 0) (hdp : dp + 16 < recursionLimit) (hun : un + 90 < cLine) (ret : ∀ g' h' tk' e d D ta tb tcc va vb u1 u2, Fr h₀ L g' m → RaisedE base g' (envX cn cs L a ccd cl :: outer) e (.ref 71) d ((d, dictOf [tyKey w.params "message" ta va, tyKey w.params "spot" tb vb, tyKey w.params "value" tcc (.ref D)] 3) ::
      (D, { cls := .type "tuple", data := .seq #[.str "face" u1, .ref 74, .bytes (asciiB txN) u2] }) :: ((sd, osd) :: (gl, listOf gs.toArray ng) :: (x, instObj 210 xd) :: (xd, dictOf [tyKey w.params "count" t4 (.int c tc), tyKey w.params "waiting" t5 (.ref wl)] 2) :: (wl, listOf vs.toArray n) :: tl)) h' → g'.UpToSlots h' → E (.ref e) { s with heap := h', toks := tk' }),
    wpAny (model prog w) (ktrTop dp un gd cn cs L a ccd cl outer) (call (.ref 263) [.ref sd, .int g tg, .str "add" tw, .int k ta, .int many tm]) Q E s
def S_add_neg_P : TT → Prop := fun x => S_add_neg_S (y_prog x) (y_w x) (y_p x) (y_loose x) (y_mean x) (y_mg x) (y_mb x) (y_dp x) (y_un x) (y_gd x) (y_cn x) (y_cs x) (y_a x) (y_ccd x) (y_cl x) (y_outer x) (y_A₀ x) (y_base x) (y_h₀ x) (y_L x) (y_m x) (y_s x) (y_Q x) (y_E x) (y_tl x) (y_sd x) (y_gl x) (y_x x) (y_xd x) (y_wl x) (y_tg x) (y_ta x) (y_tm x) (y_tw x) (y_t1 x) (y_t2 x) (y_t3 x) (y_t4 x) (y_t5 x) (y_tc x) (y_n x) (y_ng x) (y_vs x) (y_gs x) (y_q x) (y_g x) (y_c x) (y_many x) (y_k x) (y_osd x) (y_pv x) (y_al x)
def S_add_pos_S (prog : Program) (w : World) (p : Program) (loose : List Str) (mean : ExcName → Option Value) (mg mb : Str → Option Value) (dp un : Nat) (gd : Option (List Code)) (cn : Str) (cs : Scope) (a : Addr) (ccd : Value) (cl : List (Str × Addr)) (outer : List Env) (A₀ : Around) (base h₀ : Heap) (L : Addr) (m : Str → Option Value) (s : Shared) (Q E : Value → Shared → Prop) (tl : List (Addr × Obj)) (sd gl x xd wl : Addr) (tg ta tm tw t1 t2 t3 t4 t5 tc : Tok) (n ng : Nat) (vs gs : List Value) (q : List Int) (g c many k : Int) (osd : Obj) (pv al : Value) : Prop := ∀ (B : Below A₀ base outer h₀) (F : Fr h₀ L s.heap m) (X : (heapK w.params).In h₀) (T : Top p loose mean mg mb h₀) (hk : cs.kind = .function) (N : News h₀ L s.heap ((sd, osd) :: (gl, listOf gs.toArray ng) :: (x, instObj 210 xd) :: (xd, dictOf [tyKey w.params "count" t4 (.int c tc), tyKey w.params "waiting" t5 (.ref wl)] 2) :: (wl, listOf vs.toArray n) :: tl)) (hsd : Obj.IsDictOf (PySem.strKind prog w) osd (strPairs [(.str "plain" t1, pv), (.str "gates" t2, .ref gl), (.str "asleep" t3, al)])) (hq : LReads [] vs (q.map .int)) (hnd : [sd, gl, x, xd, wl].Nodup) (hsep : ∀ a ∈ [sd, gl, x, xd, wl], ∀ p ∈ tl, p.1 ≠ a) (hlen : vs.length ≤ 200) (hk0 : 0 ≤ k) (hk4 : k < 1000) (hgx : gs[k.toNat]? = some (.ref x)) (hz : ¬ c + many < 0) (hz2 : 0 < c + many) (hdp : dp + 16 < recursionLimit) (hun : un + 90 < cLine) (ret : ∀ h' tk' l r us nr W vs' n' u, Fr h₀ L h' m →
      News h₀ L h' ((l, listOf #[.bool true, .ref r] 0) :: (r, listOf us.toArray nr) :: ((sd, osd) :: (gl, listOf gs.toArray ng) :: (x, instObj 210 xd) :: (xd, dictOf [tyKey w.params "count" t4 (.int (c + many) u), tyKey w.params "waiting" t5 (.ref W)] 2) :: (W, listOf vs'.toArray n') :: tl)) →
      LReads [] vs' (List.map .int (q)) → LReads [] us (List.map .int ([])) → New l [sd, gl, x, xd, wl] tl → (r = wl ∨ New r [sd, gl, x, xd, wl] tl) → l ≠ r → (W = wl ∨ New W [sd, gl, x, xd, wl] tl) → W ≠ l → W ≠ r → Q (.ref l) { s with heap := h', toks := tk' }),
    wpAny (model prog w) (ktrTop dp un gd cn cs L a ccd cl outer) (call (.ref 263) [.ref sd, .int g tg, .str "add" tw, .int k ta, .int many tm]) Q E s
def S_add_pos_P : TT → Prop := fun x => S_add_pos_S (y_prog x) (y_w x) (y_p x) (y_loose x) (y_mean x) (y_mg x) (y_mb x) (y_dp x) (y_un x) (y_gd x) (y_cn x) (y_cs x) (y_a x) (y_ccd x) (y_cl x) (y_outer x) (y_A₀ x) (y_base x) (y_h₀ x) (y_L x) (y_m x) (y_s x) (y_Q x) (y_E x) (y_tl x) (y_sd x) (y_gl x) (y_x x) (y_xd x) (y_wl x) (y_tg x) (y_ta x) (y_tm x) (y_tw x) (y_t1 x) (y_t2 x) (y_t3 x) (y_t4 x) (y_t5 x) (y_tc x) (y_n x) (y_ng x) (y_vs x) (y_gs x) (y_q x) (y_g x) (y_c x) (y_many x) (y_k x) (y_osd x) (y_pv x) (y_al x)
def S_add_zero_S (prog : Program) (w : World) (p : Program) (loose : List Str) (mean : ExcName → Option Value) (mg mb : Str → Option Value) (dp un : Nat) (gd : Option (List Code)) (cn : Str) (cs : Scope) (a : Addr) (ccd : Value) (cl : List (Str × Addr)) (outer : List Env) (A₀ : Around) (base h₀ : Heap) (L : Addr) (m : Str → Option Value) (s : Shared) (Q E : Value → Shared → Prop) (tl : List (Addr × Obj)) (sd gl x xd wl : Addr) (tg ta tm tw t1 t2 t3 t4 t5 tc : Tok) (n ng : Nat) (vs gs : List Value) (q : List Int) (g c many k : Int) (osd : Obj) (pv al : Value) : Prop := ∀ (B : Below A₀ base outer h₀) (F : Fr h₀ L s.heap m) (X : (heapK w.params).In h₀) (T : Top p loose mean mg mb h₀) (hk : cs.kind = .function) (N : News h₀ L s.heap ((sd, osd) :: (gl, listOf gs.toArray ng) :: (x, instObj 210 xd) :: (xd, dictOf [tyKey w.params "count" t4 (.int c tc), tyKey w.params "waiting" t5 (.ref wl)] 2) :: (wl, listOf vs.toArray n) :: tl)) (hsd : Obj.IsDictOf (PySem.strKind prog w) osd (strPairs [(.str "plain" t1, pv), (.str "gates" t2, .ref gl), (.str "asleep" t3, al)])) (hq : LReads [] vs (q.map .int)) (hnd : [sd, gl, x, xd, wl].Nodup) (hsep : ∀ a ∈ [sd, gl, x, xd, wl], ∀ p ∈ tl, p.1 ≠ a) (hlen : vs.length ≤ 200) (hk0 : 0 ≤ k) (hk4 : k < 1000) (hgx : gs[k.toNat]? = some (.ref x)) (hz : ¬ c + many < 0) (hz2 : ¬ 0 < c + many) (hdp : dp + 16 < recursionLimit) (hun : un + 90 < cLine) (ret : ∀ h' tk' l r us nr W vs' n' u, Fr h₀ L h' m →
      News h₀ L h' ((l, listOf #[.bool true, .ref r] 0) :: (r, listOf us.toArray nr) :: ((sd, osd) :: (gl, listOf gs.toArray ng) :: (x, instObj 210 xd) :: (xd, dictOf [tyKey w.params "count" t4 (.int (c + many) u), tyKey w.params "waiting" t5 (.ref W)] 2) :: (W, listOf vs'.toArray n') :: tl)) →
      LReads [] vs' (List.map .int ([])) → LReads [] us (List.map .int (q)) → New l [sd, gl, x, xd, wl] tl → (r = wl ∨ New r [sd, gl, x, xd, wl] tl) → l ≠ r → (W = wl ∨ New W [sd, gl, x, xd, wl] tl) → W ≠ l → W ≠ r → Q (.ref l) { s with heap := h', toks := tk' }),
    wpAny (model prog w) (ktrTop dp un gd cn cs L a ccd cl outer) (call (.ref 263) [.ref sd, .int g tg, .str "add" tw, .int k ta, .int many tm]) Q E s
def S_add_zero_P : TT → Prop := fun x => S_add_zero_S (y_prog x) (y_w x) (y_p x) (y_loose x) (y_mean x) (y_mg x) (y_mb x) (y_dp x) (y_un x) (y_gd x) (y_cn x) (y_cs x) (y_a x) (y_ccd x) (y_cl x) (y_outer x) (y_A₀ x) (y_base x) (y_h₀ x) (y_L x) (y_m x) (y_s x) (y_Q x) (y_E x) (y_tl x) (y_sd x) (y_gl x) (y_x x) (y_xd x) (y_wl x) (y_tg x) (y_ta x) (y_tm x) (y_tw x) (y_t1 x) (y_t2 x) (y_t3 x) (y_t4 x) (y_t5 x) (y_tc x) (y_n x) (y_ng x) (y_vs x) (y_gs x) (y_q x) (y_g x) (y_c x) (y_many x) (y_k x) (y_osd x) (y_pv x) (y_al x)
def S_wait_zero_S (prog : Program) (w : World) (p : Program) (loose : List Str) (mean : ExcName → Option Value) (mg mb : Str → Option Value) (dp un : Nat) (gd : Option (List Code)) (cn : Str) (cs : Scope) (a : Addr) (ccd : Value) (cl : List (Str × Addr)) (outer : List Env) (A₀ : Around) (base h₀ : Heap) (L : Addr) (m : Str → Option Value) (s : Shared) (Q E : Value → Shared → Prop) (tl : List (Addr × Obj)) (sd gl x xd wl : Addr) (tg ta tm tw t1 t2 t3 t4 t5 tc : Tok) (n ng : Nat) (vs gs : List Value) (q : List Int) (g c many k : Int) (osd : Obj) (pv al : Value) : Prop := ∀ (B : Below A₀ base outer h₀) (F : Fr h₀ L s.heap m) (X : (heapK w.params).In h₀) (T : Top p loose mean mg mb h₀) (hk : cs.kind = .function) (N : News h₀ L s.heap ((sd, osd) :: (gl, listOf gs.toArray ng) :: (x, instObj 210 xd) :: (xd, dictOf [tyKey w.params "count" t4 (.int c tc), tyKey w.params "waiting" t5 (.ref wl)] 2) :: (wl, listOf vs.toArray n) :: tl)) (hsd : Obj.IsDictOf (PySem.strKind prog w) osd (strPairs [(.str "plain" t1, pv), (.str "gates" t2, .ref gl), (.str "asleep" t3, al)])) (hq : LReads [] vs (q.map .int)) (hnd : [sd, gl, x, xd, wl].Nodup) (hsep : ∀ a ∈ [sd, gl, x, xd, wl], ∀ p ∈ tl, p.1 ≠ a) (hlen : vs.length ≤ 200) (hk0 : 0 ≤ k) (hk4 : k < 1000) (hgx : gs[k.toNat]? = some (.ref x)) (hz : c = 0) (hdp : dp + 16 < recursionLimit) (hun : un + 90 < cLine) (ret : ∀ h' tk' l r us nr W vs' n' , Fr h₀ L h' m →
      News h₀ L h' ((l, listOf #[.bool true, .ref r] 0) :: (r, listOf us.toArray nr) :: ((sd, osd) :: (gl, listOf gs.toArray ng) :: (x, instObj 210 xd) :: (xd, dictOf [tyKey w.params "count" t4 (.int c tc), tyKey w.params "waiting" t5 (.ref W)] 2) :: (W, listOf vs'.toArray n') :: tl)) →
      LReads [] vs' (List.map .int (q)) → LReads [] us (List.map .int ([])) → New l [sd, gl, x, xd, wl] tl → (r = wl ∨ New r [sd, gl, x, xd, wl] tl) → l ≠ r → (W = wl ∨ New W [sd, gl, x, xd, wl] tl) → W ≠ l → W ≠ r → Q (.ref l) { s with heap := h', toks := tk' }),
    wpAny (model prog w) (ktrTop dp un gd cn cs L a ccd cl outer) (call (.ref 263) [.ref sd, .int g tg, .str "wait" tw, .int k ta, .int many tm]) Q E s
def S_wait_zero_P : TT → Prop := fun x => S_wait_zero_S (y_prog x) (y_w x) (y_p x) (y_loose x) (y_mean x) (y_mg x) (y_mb x) (y_dp x) (y_un x) (y_gd x) (y_cn x) (y_cs x) (y_a x) (y_ccd x) (y_cl x) (y_outer x) (y_A₀ x) (y_base x) (y_h₀ x) (y_L x) (y_m x) (y_s x) (y_Q x) (y_E x) (y_tl x) (y_sd x) (y_gl x) (y_x x) (y_xd x) (y_wl x) (y_tg x) (y_ta x) (y_tm x) (y_tw x) (y_t1 x) (y_t2 x) (y_t3 x) (y_t4 x) (y_t5 x) (y_tc x) (y_n x) (y_ng x) (y_vs x) (y_gs x) (y_q x) (y_g x) (y_c x) (y_many x) (y_k x) (y_osd x) (y_pv x) (y_al x)
def S_wait_non_S (prog : Program) (w : World) (p : Program) (loose : List Str) (mean : ExcName → Option Value) (mg mb : Str → Option Value) (dp un : Nat) (gd : Option (List Code)) (cn : Str) (cs : Scope) (a : Addr) (ccd : Value) (cl : List (Str × Addr)) (outer : List Env) (A₀ : Around) (base h₀ : Heap) (L : Addr) (m : Str → Option Value) (s : Shared) (Q E : Value → Shared → Prop) (tl : List (Addr × Obj)) (sd gl x xd wl : Addr) (tg ta tm tw t1 t2 t3 t4 t5 tc : Tok) (n ng : Nat) (vs gs : List Value) (q : List Int) (g c many k : Int) (osd : Obj) (pv al : Value) : Prop := ∀ (B : Below A₀ base outer h₀) (F : Fr h₀ L s.heap m) (X : (heapK w.params).In h₀) (T : Top p loose mean mg mb h₀) (hk : cs.kind = .function) (N : News h₀ L s.heap ((sd, osd) :: (gl, listOf gs.toArray ng) :: (x, instObj 210 xd) :: (xd, dictOf [tyKey w.params "count" t4 (.int c tc), tyKey w.params "waiting" t5 (.ref wl)] 2) :: (wl, listOf vs.toArray n) :: tl)) (hsd : Obj.IsDictOf (PySem.strKind prog w) osd (strPairs [(.str "plain" t1, pv), (.str "gates" t2, .ref gl), (.str "asleep" t3, al)])) (hq : LReads [] vs (q.map .int)) (hnd : [sd, gl, x, xd, wl].Nodup) (hsep : ∀ a ∈ [sd, gl, x, xd, wl], ∀ p ∈ tl, p.1 ≠ a) (hlen : vs.length ≤ 200) (hk0 : 0 ≤ k) (hk4 : k < 1000) (hgx : gs[k.toNat]? = some (.ref x)) (hz : ¬ c = 0) (hdp : dp + 16 < recursionLimit) (hun : un + 90 < cLine) (ret : ∀ h' tk' l r us nr W vs' n' , Fr h₀ L h' m →
      News h₀ L h' ((l, listOf #[.bool false, .ref r] 0) :: (r, listOf us.toArray nr) :: ((sd, osd) :: (gl, listOf gs.toArray ng) :: (x, instObj 210 xd) :: (xd, dictOf [tyKey w.params "count" t4 (.int c tc), tyKey w.params "waiting" t5 (.ref W)] 2) :: (W, listOf vs'.toArray n') :: tl)) →
      LReads [] vs' (List.map .int (q ++ [g])) → LReads [] us (List.map .int ([])) → New l [sd, gl, x, xd, wl] tl → (r = wl ∨ New r [sd, gl, x, xd, wl] tl) → l ≠ r → (W = wl ∨ New W [sd, gl, x, xd, wl] tl) → W ≠ l → W ≠ r → Q (.ref l) { s with heap := h', toks := tk' }),
    wpAny (model prog w) (ktrTop dp un gd cn cs L a ccd cl outer) (call (.ref 263) [.ref sd, .int g tg, .str "wait" tw, .int k ta, .int many tm]) Q E s
def S_wait_non_P : TT → Prop := fun x => S_wait_non_S (y_prog x) (y_w x) (y_p x) (y_loose x) (y_mean x) (y_mg x) (y_mb x) (y_dp x) (y_un x) (y_gd x) (y_cn x) (y_cs x) (y_a x) (y_ccd x) (y_cl x) (y_outer x) (y_A₀ x) (y_base x) (y_h₀ x) (y_L x) (y_m x) (y_s x) (y_Q x) (y_E x) (y_tl x) (y_sd x) (y_gl x) (y_x x) (y_xd x) (y_wl x) (y_tg x) (y_ta x) (y_tm x) (y_tw x) (y_t1 x) (y_t2 x) (y_t3 x) (y_t4 x) (y_t5 x) (y_tc x) (y_n x) (y_ng x) (y_vs x) (y_gs x) (y_q x) (y_g x) (y_c x) (y_many x) (y_k x) (y_osd x) (y_pv x) (y_al x)
def queued_ok_S (prog : Program) (w : World) (p : Program) (loose : List Str) (mean : ExcName → Option Value) (mg mb : Str → Option Value) (dp un : Nat) (gd : Option (List Code)) (cn : Str) (cs : Scope) (a : Addr) (ccd : Value) (cl : List (Str × Addr)) (outer : List Env) (A₀ : Around) (base h₀ : Heap) (L : Addr) (m : Str → Option Value) (s : Shared) (Q E : Value → Shared → Prop) (tl : List (Addr × Obj)) (sd pg gl : Addr) (t1 t2 t3 : Tok) (z : Nat) (osd : Obj) (al : Value) (fr : List (Addr × Obj)) (st : St) (tg ta tm tw : Tok) (g k many : Int) (word : Str) (b : Bool) (out : List Int) (st' : St) : Prop := ∀ (B : Below A₀ base outer h₀) (F : Fr h₀ L s.heap m) (X : (heapK w.params).In h₀) (T : Top p loose mean mg mb h₀) (hk : cs.kind = .function) (N : News h₀ L s.heap ((sd, osd) :: (fr ++ tl))) (hsd : Obj.IsDictOf (PySem.strKind prog w) osd (strPairs [(.str "plain" t1, .ref pg), (.str "gates" t2, .ref gl), (.str "asleep" t3, al)])) (hS : Scn prog w pg gl z st tl) (hA : Apart fr tl) (hA0 : ∀ q ∈ tl, q.1 ≠ sd) (hsf : ∀ p ∈ fr, p.1 ≠ sd) (hsm : Small z st) (hz : z ≤ 190) (hstep : QStep st g word k many b out st') (hdp : dp + 16 < recursionLimit) (hun : un + 90 < cLine) (ret : ∀ h' tk' l r us nr tl', Fr h₀ L h' m → News h₀ L h' ((l, listOf #[.bool b, .ref r] 0) :: (r, listOf us.toArray nr) :: (sd, osd) :: (fr ++ tl')) → Scn prog w pg gl z st' tl' → LReads [] us (out.map .int) →
      Apart ((l, listOf #[.bool b, .ref r] 0) :: (r, listOf us.toArray nr) :: (sd, osd) :: fr) tl' → (∀ p ∈ fr, p.1 ≠ l) → (∀ p ∈ fr, p.1 ≠ r) → l ≠ r → l ≠ sd → r ≠ sd → Q (.ref l) { s with heap := h', toks := tk' }),
    wpAny (model prog w) (ktrTop dp un gd cn cs L a ccd cl outer) (call (.ref 263) [.ref sd, .int g tg, .str word tw, .int k ta, .int many tm]) Q E s
def queued_ok_P : TT → Prop := fun x => queued_ok_S (y_prog x) (y_w x) (y_p x) (y_loose x) (y_mean x) (y_mg x) (y_mb x) (y_dp x) (y_un x) (y_gd x) (y_cn x) (y_cs x) (y_a x) (y_ccd x) (y_cl x) (y_outer x) (y_A₀ x) (y_base x) (y_h₀ x) (y_L x) (y_m x) (y_s x) (y_Q x) (y_E x) (y_tl x) (y_sd x) (y_pg x) (y_gl x) (y_t1 x) (y_t2 x) (y_t3 x) (y_z x) (y_osd x) (y_al x) (y_fr x) (y_st x) (y_tg x) (y_ta x) (y_tm x) (y_tw x) (y_g x) (y_k x) (y_many x) (y_word x) (y_b x) (y_out x) (y_st' x)
def queued_bad_S (prog : Program) (w : World) (p : Program) (loose : List Str) (mean : ExcName → Option Value) (mg mb : Str → Option Value) (dp un : Nat) (gd : Option (List Code)) (cn : Str) (cs : Scope) (a : Addr) (ccd : Value) (cl : List (Str × Addr)) (outer : List Env) (A₀ : Around) (base h₀ : Heap) (L : Addr) (m : Str → Option Value) (s : Shared) (Q E : Value → Shared → Prop) (tl : List (Addr × Obj)) (sd pg gl : Addr) (t1 t2 t3 : Tok) (z : Nat) (osd : Obj) (al : Value) (fr : List (Addr × Obj)) (st : St) (tg ta tm tw : Tok) (g k many : Int) (word : Str) (tx : Str) : Prop := ∀ (B : Below A₀ base outer h₀) (F : Fr h₀ L s.heap m) (X : (heapK w.params).In h₀) (T : Top p loose mean mg mb h₀) (hk : cs.kind = .function) (N : News h₀ L s.heap ((sd, osd) :: (fr ++ tl))) (hsd : Obj.IsDictOf (PySem.strKind prog w) osd (strPairs [(.str "plain" t1, .ref pg), (.str "gates" t2, .ref gl), (.str "asleep" t3, al)])) (hS : Scn prog w pg gl z st tl) (hA : Apart fr tl) (hA0 : ∀ q ∈ tl, q.1 ≠ sd) (hsf : ∀ p ∈ fr, p.1 ≠ sd) (hsm : Small z st) (hz : z ≤ 190) (hstep : QBad st word k many tx) (hdp : dp + 16 < recursionLimit) (hun : un + 90 < cLine) (ret : ∀ g' h' tk' e d D ta tb tcc va vb u1 u2, Fr h₀ L g' m → RaisedE base g' (envX cn cs L a ccd cl :: outer) e (.ref 71) d ((d, dictOf [tyKey w.params "message" ta va, tyKey w.params "spot" tb vb, tyKey w.params "value" tcc (.ref D)] 3) ::
      (D, { cls := .type "tuple", data := .seq #[.str "face" u1, .ref 74, .bytes (asciiB tx) u2] }) :: (sd, osd) :: (fr ++ tl)) h' → g'.UpToSlots h' → E (.ref e) { s with heap := h', toks := tk' }),
    wpAny (model prog w) (ktrTop dp un gd cn cs L a ccd cl outer) (call (.ref 263) [.ref sd, .int g tg, .str word tw, .int k ta, .int many tm]) Q E s
def queued_bad_P : TT → Prop := fun x => queued_bad_S (y_prog x) (y_w x) (y_p x) (y_loose x) (y_mean x) (y_mg x) (y_mb x) (y_dp x) (y_un x) (y_gd x) (y_cn x) (y_cs x) (y_a x) (y_ccd x) (y_cl x) (y_outer x) (y_A₀ x) (y_base x) (y_h₀ x) (y_L x) (y_m x) (y_s x) (y_Q x) (y_E x) (y_tl x) (y_sd x) (y_pg x) (y_gl x) (y_t1 x) (y_t2 x) (y_t3 x) (y_z x) (y_osd x) (y_al x) (y_fr x) (y_st x) (y_tg x) (y_ta x) (y_tm x) (y_tw x) (y_g x) (y_k x) (y_many x) (y_word x) (y_tx x)
def plain_ok_S (prog : Program) (w : World) (p : Program) (loose : List Str) (mean : ExcName → Option Value) (mg mb : Str → Option Value) (dp un : Nat) (gd : Option (List Code)) (cn : Str) (cs : Scope) (a : Addr) (ccd : Value) (cl : List (Str × Addr)) (outer : List Env) (A₀ : Around) (base h₀ : Heap) (L : Addr) (m : Str → Option Value) (s : Shared) (Q E : Value → Shared → Prop) (tl : List (Addr × Obj)) (sd pg gl : Addr) (t1 t2 t3 : Tok) (z : Nat) (osd : Obj) (al : Value) (fr : List (Addr × Obj)) (st : St) (tg ta tm tw : Tok) (g k many : Int) (word : Str) (b : Bool) (out : List Int) (st' : St) : Prop := ∀ (B : Below A₀ base outer h₀) (F : Fr h₀ L s.heap m) (X : (heapK w.params).In h₀) (T : Top p loose mean mg mb h₀) (hk : cs.kind = .function) (N : News h₀ L s.heap ((sd, osd) :: (fr ++ tl))) (hsd : Obj.IsDictOf (PySem.strKind prog w) osd (strPairs [(.str "plain" t1, .ref pg), (.str "gates" t2, .ref gl), (.str "asleep" t3, al)])) (hS : Scn prog w pg gl z st tl) (hA : Apart fr tl) (hA0 : ∀ q ∈ tl, q.1 ≠ sd) (hsf : ∀ p ∈ fr, p.1 ≠ sd) (hsm : Small z st) (hz : z ≤ 190) (hstep : PStep st g word k many b out st') (hdp : dp + 16 < recursionLimit) (hun : un + 90 < cLine) (ret : ∀ h' tk' l r us nr tl', Fr h₀ L h' m → News h₀ L h' ((l, listOf #[.bool b, .ref r] 0) :: (r, listOf us.toArray nr) :: (sd, osd) :: (fr ++ tl')) → Scn prog w pg gl (z + 1) st' tl' → LReads [] us (out.map .int) →
      Apart ((l, listOf #[.bool b, .ref r] 0) :: (r, listOf us.toArray nr) :: (sd, osd) :: fr) tl' → (∀ p ∈ fr, p.1 ≠ l) → (∀ p ∈ fr, p.1 ≠ r) → l ≠ r → l ≠ sd → r ≠ sd → Q (.ref l) { s with heap := h', toks := tk' }),
    wpAny (model prog w) (ktrTop dp un gd cn cs L a ccd cl outer) (call (.ref 270) [.ref sd, .int g tg, .str word tw, .int k ta, .int many tm]) Q E s
def plain_ok_P : TT → Prop := fun x => plain_ok_S (y_prog x) (y_w x) (y_p x) (y_loose x) (y_mean x) (y_mg x) (y_mb x) (y_dp x) (y_un x) (y_gd x) (y_cn x) (y_cs x) (y_a x) (y_ccd x) (y_cl x) (y_outer x) (y_A₀ x) (y_base x) (y_h₀ x) (y_L x) (y_m x) (y_s x) (y_Q x) (y_E x) (y_tl x) (y_sd x) (y_pg x) (y_gl x) (y_t1 x) (y_t2 x) (y_t3 x) (y_z x) (y_osd x) (y_al x) (y_fr x) (y_st x) (y_tg x) (y_ta x) (y_tm x) (y_tw x) (y_g x) (y_k x) (y_many x) (y_word x) (y_b x) (y_out x) (y_st' x)
def plain_bad_S (prog : Program) (w : World) (p : Program) (loose : List Str) (mean : ExcName → Option Value) (mg mb : Str → Option Value) (dp un : Nat) (gd : Option (List Code)) (cn : Str) (cs : Scope) (a : Addr) (ccd : Value) (cl : List (Str × Addr)) (outer : List Env) (A₀ : Around) (base h₀ : Heap) (L : Addr) (m : Str → Option Value) (s : Shared) (Q E : Value → Shared → Prop) (tl : List (Addr × Obj)) (sd pg gl : Addr) (t1 t2 t3 : Tok) (z : Nat) (osd : Obj) (al : Value) (fr : List (Addr × Obj)) (st : St) (tg ta tm tw : Tok) (g k many : Int) (word : Str) (tx : Str) : Prop := ∀ (B : Below A₀ base outer h₀) (F : Fr h₀ L s.heap m) (X : (heapK w.params).In h₀) (T : Top p loose mean mg mb h₀) (hk : cs.kind = .function) (N : News h₀ L s.heap ((sd, osd) :: (fr ++ tl))) (hsd : Obj.IsDictOf (PySem.strKind prog w) osd (strPairs [(.str "plain" t1, .ref pg), (.str "gates" t2, .ref gl), (.str "asleep" t3, al)])) (hS : Scn prog w pg gl z st tl) (hA : Apart fr tl) (hA0 : ∀ q ∈ tl, q.1 ≠ sd) (hsf : ∀ p ∈ fr, p.1 ≠ sd) (hsm : Small z st) (hz : z ≤ 190) (hstep : PBad st word k many tx) (hdp : dp + 16 < recursionLimit) (hun : un + 90 < cLine) (ret : ∀ g' h' tk' e d D ta tb tcc va vb u1 u2, Fr h₀ L g' m → RaisedE base g' (envX cn cs L a ccd cl :: outer) e (.ref 71) d ((d, dictOf [tyKey w.params "message" ta va, tyKey w.params "spot" tb vb, tyKey w.params "value" tcc (.ref D)] 3) ::
      (D, { cls := .type "tuple", data := .seq #[.str "face" u1, .ref 74, .bytes (asciiB tx) u2] }) :: (sd, osd) :: (fr ++ tl)) h' → g'.UpToSlots h' → E (.ref e) { s with heap := h', toks := tk' }),
    wpAny (model prog w) (ktrTop dp un gd cn cs L a ccd cl outer) (call (.ref 270) [.ref sd, .int g tg, .str word tw, .int k ta, .int many tm]) Q E s
def plain_bad_P : TT → Prop := fun x => plain_bad_S (y_prog x) (y_w x) (y_p x) (y_loose x) (y_mean x) (y_mg x) (y_mb x) (y_dp x) (y_un x) (y_gd x) (y_cn x) (y_cs x) (y_a x) (y_ccd x) (y_cl x) (y_outer x) (y_A₀ x) (y_base x) (y_h₀ x) (y_L x) (y_m x) (y_s x) (y_Q x) (y_E x) (y_tl x) (y_sd x) (y_pg x) (y_gl x) (y_t1 x) (y_t2 x) (y_t3 x) (y_z x) (y_osd x) (y_al x) (y_fr x) (y_st x) (y_tg x) (y_ta x) (y_tm x) (y_tw x) (y_g x) (y_k x) (y_many x) (y_word x) (y_tx x)
def stands_ok_S (prog : Program) (w : World) (p : Program) (loose : List Str) (mean : ExcName → Option Value) (mg mb : Str → Option Value) (dp un : Nat) (gd : Option (List Code)) (cn : Str) (cs : Scope) (a : Addr) (ccd : Value) (cl : List (Str × Addr)) (outer : List Env) (A₀ : Around) (base h₀ : Heap) (L : Addr) (m : Str → Option Value) (s : Shared) (Q E : Value → Shared → Prop) (tl : List (Addr × Obj)) (sd pg gl : Addr) (t1 t2 t3 : Tok) (z : Nat) (osd : Obj) (al : Value) (fr : List (Addr × Obj)) (st : St) : Prop := ∀ (B : Below A₀ base outer h₀) (F : Fr h₀ L s.heap m) (X : (heapK w.params).In h₀) (T : Top p loose mean mg mb h₀) (hk : cs.kind = .function) (N : News h₀ L s.heap ((sd, osd) :: (fr ++ tl))) (hsd : Obj.IsDictOf (PySem.strKind prog w) osd (strPairs [(.str "plain" t1, .ref pg), (.str "gates" t2, .ref gl), (.str "asleep" t3, al)])) (hS : Scn prog w pg gl z st tl) (hA : Apart fr tl) (hA0 : ∀ q ∈ tl, q.1 ≠ sd) (hsf : ∀ p ∈ fr, p.1 ≠ sd) (hsm : Small z st) (hz : z ≤ 190) (hM : Match st) (hdp : dp + 16 < recursionLimit) (hun : un + 90 < cLine) (ret : ∀ h' tk', Fr h₀ L h' m → News h₀ L h' ((sd, osd) :: (fr ++ tl)) → Q (.bool true) { s with heap := h', toks := tk' }),
    wpAny (model prog w) (ktrTop dp un gd cn cs L a ccd cl outer) (call (.ref 275) [.ref sd]) Q E s
def stands_ok_P : TT → Prop := fun x => stands_ok_S (y_prog x) (y_w x) (y_p x) (y_loose x) (y_mean x) (y_mg x) (y_mb x) (y_dp x) (y_un x) (y_gd x) (y_cn x) (y_cs x) (y_a x) (y_ccd x) (y_cl x) (y_outer x) (y_A₀ x) (y_base x) (y_h₀ x) (y_L x) (y_m x) (y_s x) (y_Q x) (y_E x) (y_tl x) (y_sd x) (y_pg x) (y_gl x) (y_t1 x) (y_t2 x) (y_t3 x) (y_z x) (y_osd x) (y_al x) (y_fr x) (y_st x)
def queued_okF_S (prog : Program) (w : World) (p : Program) (loose : List Str) (mean : ExcName → Option Value) (mg mb : Str → Option Value) (dp un : Nat) (gd : Option (List Code)) (cn : Str) (cs : Scope) (a : Addr) (ccd : Value) (cl : List (Str × Addr)) (outer : List Env) (A₀ : Around) (base h₀ : Heap) (L : Addr) (m : Str → Option Value) (s : Shared) (Q E : Value → Shared → Prop) (tl : List (Addr × Obj)) (sd pg gl : Addr) (t1 t2 t3 : Tok) (z : Nat) (osd : Obj) (al : Value) (fr : List (Addr × Obj)) (st : St) (G : List (Addr × Obj)) (tg ta tm tw : Tok) (g k many : Int) (word : Str) (b : Bool) (out : List Int) (st' : St) : Prop := ∀ (B : Below A₀ base outer h₀) (F : Fr h₀ L s.heap m) (X : (heapK w.params).In h₀) (T : Top p loose mean mg mb h₀) (hk : cs.kind = .function) (N : News h₀ L s.heap ((sd, osd) :: (fr ++ tl))) (hsd : Obj.IsDictOf (PySem.strKind prog w) osd (strPairs [(.str "plain" t1, .ref pg), (.str "gates" t2, .ref gl), (.str "asleep" t3, al)])) (hS : ScnF prog w pg gl G z st tl) (hA : Apart fr tl) (hA0 : ∀ q ∈ tl, q.1 ≠ sd) (hsf : ∀ p ∈ fr, p.1 ≠ sd) (hsm : Small z st) (hz : z ≤ 190) (hstep : QStep st g word k many b out st') (hdp : dp + 16 < recursionLimit) (hun : un + 90 < cLine) (ret : ∀ h' tk' l r us nr tl', Fr h₀ L h' m → News h₀ L h' ((l, listOf #[.bool b, .ref r] 0) :: (r, listOf us.toArray nr) :: (sd, osd) :: (fr ++ tl')) → ScnF prog w pg gl G z st' tl' → LReads [] us (out.map .int) →
      Apart ((l, listOf #[.bool b, .ref r] 0) :: (r, listOf us.toArray nr) :: (sd, osd) :: fr) tl' → (∀ p ∈ fr, p.1 ≠ l) → (∀ p ∈ fr, p.1 ≠ r) → l ≠ r → l ≠ sd → r ≠ sd → Q (.ref l) { s with heap := h', toks := tk' }),
    wpAny (model prog w) (ktrTop dp un gd cn cs L a ccd cl outer) (call (.ref 263) [.ref sd, .int g tg, .str word tw, .int k ta, .int many tm]) Q E s
def queued_okF_P : TT → Prop := fun x => queued_okF_S (y_prog x) (y_w x) (y_p x) (y_loose x) (y_mean x) (y_mg x) (y_mb x) (y_dp x) (y_un x) (y_gd x) (y_cn x) (y_cs x) (y_a x) (y_ccd x) (y_cl x) (y_outer x) (y_A₀ x) (y_base x) (y_h₀ x) (y_L x) (y_m x) (y_s x) (y_Q x) (y_E x) (y_tl x) (y_sd x) (y_pg x) (y_gl x) (y_t1 x) (y_t2 x) (y_t3 x) (y_z x) (y_osd x) (y_al x) (y_fr x) (y_st x) (y_G x) (y_tg x) (y_ta x) (y_tm x) (y_tw x) (y_g x) (y_k x) (y_many x) (y_word x) (y_b x) (y_out x) (y_st' x)
def plain_okF_S (prog : Program) (w : World) (p : Program) (loose : List Str) (mean : ExcName → Option Value) (mg mb : Str → Option Value) (dp un : Nat) (gd : Option (List Code)) (cn : Str) (cs : Scope) (a : Addr) (ccd : Value) (cl : List (Str × Addr)) (outer : List Env) (A₀ : Around) (base h₀ : Heap) (L : Addr) (m : Str → Option Value) (s : Shared) (Q E : Value → Shared → Prop) (tl : List (Addr × Obj)) (sd pg gl : Addr) (t1 t2 t3 : Tok) (z : Nat) (osd : Obj) (al : Value) (fr : List (Addr × Obj)) (st : St) (G : List (Addr × Obj)) (tg ta tm tw : Tok) (g k many : Int) (word : Str) (b : Bool) (out : List Int) (st' : St) : Prop := ∀ (B : Below A₀ base outer h₀) (F : Fr h₀ L s.heap m) (X : (heapK w.params).In h₀) (T : Top p loose mean mg mb h₀) (hk : cs.kind = .function) (N : News h₀ L s.heap ((sd, osd) :: (fr ++ tl))) (hsd : Obj.IsDictOf (PySem.strKind prog w) osd (strPairs [(.str "plain" t1, .ref pg), (.str "gates" t2, .ref gl), (.str "asleep" t3, al)])) (hS : ScnF prog w pg gl G z st tl) (hA : Apart fr tl) (hA0 : ∀ q ∈ tl, q.1 ≠ sd) (hsf : ∀ p ∈ fr, p.1 ≠ sd) (hsm : Small z st) (hz : z ≤ 190) (hstep : PStep st g word k many b out st') (hdp : dp + 16 < recursionLimit) (hun : un + 90 < cLine) (ret : ∀ h' tk' l r us nr tl', Fr h₀ L h' m → News h₀ L h' ((l, listOf #[.bool b, .ref r] 0) :: (r, listOf us.toArray nr) :: (sd, osd) :: (fr ++ tl')) → ScnF prog w pg gl G (z + 1) st' tl' → LReads [] us (out.map .int) →
      Apart ((l, listOf #[.bool b, .ref r] 0) :: (r, listOf us.toArray nr) :: (sd, osd) :: fr) tl' → (∀ p ∈ fr, p.1 ≠ l) → (∀ p ∈ fr, p.1 ≠ r) → l ≠ r → l ≠ sd → r ≠ sd → Q (.ref l) { s with heap := h', toks := tk' }),
    wpAny (model prog w) (ktrTop dp un gd cn cs L a ccd cl outer) (call (.ref 270) [.ref sd, .int g tg, .str word tw, .int k ta, .int many tm]) Q E s
def plain_okF_P : TT → Prop := fun x => plain_okF_S (y_prog x) (y_w x) (y_p x) (y_loose x) (y_mean x) (y_mg x) (y_mb x) (y_dp x) (y_un x) (y_gd x) (y_cn x) (y_cs x) (y_a x) (y_ccd x) (y_cl x) (y_outer x) (y_A₀ x) (y_base x) (y_h₀ x) (y_L x) (y_m x) (y_s x) (y_Q x) (y_E x) (y_tl x) (y_sd x) (y_pg x) (y_gl x) (y_t1 x) (y_t2 x) (y_t3 x) (y_z x) (y_osd x) (y_al x) (y_fr x) (y_st x) (y_G x) (y_tg x) (y_ta x) (y_tm x) (y_tw x) (y_g x) (y_k x) (y_many x) (y_word x) (y_b x) (y_out x) (y_st' x)
def queued_badF_S (prog : Program) (w : World) (p : Program) (loose : List Str) (mean : ExcName → Option Value) (mg mb : Str → Option Value) (dp un : Nat) (gd : Option (List Code)) (cn : Str) (cs : Scope) (a : Addr) (ccd : Value) (cl : List (Str × Addr)) (outer : List Env) (A₀ : Around) (base h₀ : Heap) (L : Addr) (m : Str → Option Value) (s : Shared) (Q E : Value → Shared → Prop) (tl : List (Addr × Obj)) (sd pg gl : Addr) (t1 t2 t3 : Tok) (z : Nat) (osd : Obj) (al : Value) (fr : List (Addr × Obj)) (st : St) (G : List (Addr × Obj)) (tg ta tm tw : Tok) (g k many : Int) (word : Str) (tx : Str) : Prop := ∀ (B : Below A₀ base outer h₀) (F : Fr h₀ L s.heap m) (X : (heapK w.params).In h₀) (T : Top p loose mean mg mb h₀) (hk : cs.kind = .function) (N : News h₀ L s.heap ((sd, osd) :: (fr ++ tl))) (hsd : Obj.IsDictOf (PySem.strKind prog w) osd (strPairs [(.str "plain" t1, .ref pg), (.str "gates" t2, .ref gl), (.str "asleep" t3, al)])) (hS : ScnF prog w pg gl G z st tl) (hA : Apart fr tl) (hA0 : ∀ q ∈ tl, q.1 ≠ sd) (hsf : ∀ p ∈ fr, p.1 ≠ sd) (hsm : Small z st) (hz : z ≤ 190) (hstep : QBad st word k many tx) (hdp : dp + 16 < recursionLimit) (hun : un + 90 < cLine) (ret : ∀ g' h' tk' e d D ta tb tcc va vb u1 u2, Fr h₀ L g' m → RaisedE base g' (envX cn cs L a ccd cl :: outer) e (.ref 71) d ((d, dictOf [tyKey w.params "message" ta va, tyKey w.params "spot" tb vb, tyKey w.params "value" tcc (.ref D)] 3) ::
      (D, { cls := .type "tuple", data := .seq #[.str "face" u1, .ref 74, .bytes (asciiB tx) u2] }) :: (sd, osd) :: (fr ++ tl)) h' → g'.UpToSlots h' → E (.ref e) { s with heap := h', toks := tk' }),
    wpAny (model prog w) (ktrTop dp un gd cn cs L a ccd cl outer) (call (.ref 263) [.ref sd, .int g tg, .str word tw, .int k ta, .int many tm]) Q E s
def queued_badF_P : TT → Prop := fun x => queued_badF_S (y_prog x) (y_w x) (y_p x) (y_loose x) (y_mean x) (y_mg x) (y_mb x) (y_dp x) (y_un x) (y_gd x) (y_cn x) (y_cs x) (y_a x) (y_ccd x) (y_cl x) (y_outer x) (y_A₀ x) (y_base x) (y_h₀ x) (y_L x) (y_m x) (y_s x) (y_Q x) (y_E x) (y_tl x) (y_sd x) (y_pg x) (y_gl x) (y_t1 x) (y_t2 x) (y_t3 x) (y_z x) (y_osd x) (y_al x) (y_fr x) (y_st x) (y_G x) (y_tg x) (y_ta x) (y_tm x) (y_tw x) (y_g x) (y_k x) (y_many x) (y_word x) (y_tx x)
def plain_badF_S (prog : Program) (w : World) (p : Program) (loose : List Str) (mean : ExcName → Option Value) (mg mb : Str → Option Value) (dp un : Nat) (gd : Option (List Code)) (cn : Str) (cs : Scope) (a : Addr) (ccd : Value) (cl : List (Str × Addr)) (outer : List Env) (A₀ : Around) (base h₀ : Heap) (L : Addr) (m : Str → Option Value) (s : Shared) (Q E : Value → Shared → Prop) (tl : List (Addr × Obj)) (sd pg gl : Addr) (t1 t2 t3 : Tok) (z : Nat) (osd : Obj) (al : Value) (fr : List (Addr × Obj)) (st : St) (G : List (Addr × Obj)) (tg ta tm tw : Tok) (g k many : Int) (word : Str) (tx : Str) : Prop := ∀ (B : Below A₀ base outer h₀) (F : Fr h₀ L s.heap m) (X : (heapK w.params).In h₀) (T : Top p loose mean mg mb h₀) (hk : cs.kind = .function) (N : News h₀ L s.heap ((sd, osd) :: (fr ++ tl))) (hsd : Obj.IsDictOf (PySem.strKind prog w) osd (strPairs [(.str "plain" t1, .ref pg), (.str "gates" t2, .ref gl), (.str "asleep" t3, al)])) (hS : ScnF prog w pg gl G z st tl) (hA : Apart fr tl) (hA0 : ∀ q ∈ tl, q.1 ≠ sd) (hsf : ∀ p ∈ fr, p.1 ≠ sd) (hsm : Small z st) (hz : z ≤ 190) (hstep : PBad st word k many tx) (hdp : dp + 16 < recursionLimit) (hun : un + 90 < cLine) (ret : ∀ g' h' tk' e d D ta tb tcc va vb u1 u2, Fr h₀ L g' m → RaisedE base g' (envX cn cs L a ccd cl :: outer) e (.ref 71) d ((d, dictOf [tyKey w.params "message" ta va, tyKey w.params "spot" tb vb, tyKey w.params "value" tcc (.ref D)] 3) ::
      (D, { cls := .type "tuple", data := .seq #[.str "face" u1, .ref 74, .bytes (asciiB tx) u2] }) :: (sd, osd) :: (fr ++ tl)) h' → g'.UpToSlots h' → E (.ref e) { s with heap := h', toks := tk' }),
    wpAny (model prog w) (ktrTop dp un gd cn cs L a ccd cl outer) (call (.ref 270) [.ref sd, .int g tg, .str word tw, .int k ta, .int many tm]) Q E s
def plain_badF_P : TT → Prop := fun x => plain_badF_S (y_prog x) (y_w x) (y_p x) (y_loose x) (y_mean x) (y_mg x) (y_mb x) (y_dp x) (y_un x) (y_gd x) (y_cn x) (y_cs x) (y_a x) (y_ccd x) (y_cl x) (y_outer x) (y_A₀ x) (y_base x) (y_h₀ x) (y_L x) (y_m x) (y_s x) (y_Q x) (y_E x) (y_tl x) (y_sd x) (y_pg x) (y_gl x) (y_t1 x) (y_t2 x) (y_t3 x) (y_z x) (y_osd x) (y_al x) (y_fr x) (y_st x) (y_G x) (y_tg x) (y_ta x) (y_tm x) (y_tw x) (y_g x) (y_k x) (y_many x) (y_word x) (y_tx x)
def stands_okF_S (prog : Program) (w : World) (p : Program) (loose : List Str) (mean : ExcName → Option Value) (mg mb : Str → Option Value) (dp un : Nat) (gd : Option (List Code)) (cn : Str) (cs : Scope) (a : Addr) (ccd : Value) (cl : List (Str × Addr)) (outer : List Env) (A₀ : Around) (base h₀ : Heap) (L : Addr) (m : Str → Option Value) (s : Shared) (Q E : Value → Shared → Prop) (tl : List (Addr × Obj)) (sd pg gl : Addr) (t1 t2 t3 : Tok) (z : Nat) (osd : Obj) (al : Value) (fr : List (Addr × Obj)) (st : St) (G : List (Addr × Obj)) : Prop := ∀ (B : Below A₀ base outer h₀) (F : Fr h₀ L s.heap m) (X : (heapK w.params).In h₀) (T : Top p loose mean mg mb h₀) (hk : cs.kind = .function) (N : News h₀ L s.heap ((sd, osd) :: (fr ++ tl))) (hsd : Obj.IsDictOf (PySem.strKind prog w) osd (strPairs [(.str "plain" t1, .ref pg), (.str "gates" t2, .ref gl), (.str "asleep" t3, al)])) (hS : ScnF prog w pg gl G z st tl) (hA : Apart fr tl) (hA0 : ∀ q ∈ tl, q.1 ≠ sd) (hsf : ∀ p ∈ fr, p.1 ≠ sd) (hsm : Small z st) (hz : z ≤ 190) (hM : Match st) (hdp : dp + 16 < recursionLimit) (hun : un + 90 < cLine) (ret : ∀ h' tk', Fr h₀ L h' m → News h₀ L h' ((sd, osd) :: (fr ++ tl)) → Q (.bool true) { s with heap := h', toks := tk' }),
    wpAny (model prog w) (ktrTop dp un gd cn cs L a ccd cl outer) (call (.ref 275) [.ref sd]) Q E s
def stands_okF_P : TT → Prop := fun x => stands_okF_S (y_prog x) (y_w x) (y_p x) (y_loose x) (y_mean x) (y_mg x) (y_mb x) (y_dp x) (y_un x) (y_gd x) (y_cn x) (y_cs x) (y_a x) (y_ccd x) (y_cl x) (y_outer x) (y_A₀ x) (y_base x) (y_h₀ x) (y_L x) (y_m x) (y_s x) (y_Q x) (y_E x) (y_tl x) (y_sd x) (y_pg x) (y_gl x) (y_t1 x) (y_t2 x) (y_t3 x) (y_z x) (y_osd x) (y_al x) (y_fr x) (y_st x) (y_G x)
def deed_f_S (prog : Program) (w : World) (p : Program) (loose : List Str) (mean : ExcName → Option Value) (mg mb : Str → Option Value) (dp un : Nat) (gd : Option (List Code)) (cn : Str) (cs : Scope) (a : Addr) (ccd : Value) (cl : List (Str × Addr)) (outer : List Env) (A₀ : Around) (base h₀ : Heap) (L : Addr) (m : Str → Option Value) (s : Shared) (Q E : Value → Shared → Prop) (tl : List (Addr × Obj)) (sd al pg gl : Addr) (tg ta tm tw t1 t2 t3 : Tok) (na z : Nat) (as : List Value) (asl asl1 : List Int) (g k many : Int) (word : Str) (b : Bool) (out : List Int) (st st1 st2 : St) (osd : Obj) (K fr : List (Addr × Obj)) (ps : Array Value) : Prop := ∀ (B : Below A₀ base outer h₀) (F : Fr h₀ L s.heap m) (X : (heapK w.params).In h₀) (T : Top p loose mean mg mb h₀) (hk : cs.kind = .function) (N : News h₀ L s.heap ((277, tabObj ps) :: (sd, osd) :: (al, listOf as.toArray na) :: tl)) (hsd : Obj.IsDictOf (PySem.strKind prog w) osd (strPairs [(.str "plain" t1, .ref pg), (.str "gates" t2, .ref gl), (.str "asleep" t3, .ref al)])) (hS : ScnF prog w pg gl (K ++ fr) z st tl) (hK : Apart K fr) (hl : LamOk lamX #[] ps K) (hsm : Small z st) (hsm1 : Small z st1) (hsm2 : Small (z + 1) st2) (hz : z ≤ 190) (hz1 : z + 1 ≤ 190) (h1 : QStep st g word k many b out st1) (h2 : PStep st1 g word k many b out st2) (hM : Match st2) (hras : LReads [] as (asl.map .int)) (hal : as.length ≤ 190) (hasl1T : b = true → asl1 = asl) (hasl1F : b = false → asl1 = asl ++ [g]) (hrem : ∀ i x, out[i]? = some x → (remAll asl1 (out.take i)).contains x = true) (hnd : [277, sd, al].Nodup) (ha1 : ∀ q ∈ tl, q.1 ≠ 277) (ha2 : ∀ q ∈ tl, q.1 ≠ sd) (ha3 : ∀ q ∈ tl, q.1 ≠ al) (hCH : CodeHd base 281 277) (hdp : dp + 28 < recursionLimit) (hun : un + 110 < cLine) (ret : ∀ h' tk' tl' vs' na' ps' K', Fr h₀ L h' m → News h₀ L h' ((277, tabObj ps') :: (sd, osd) :: (al, listOf vs'.toArray na') :: tl') → ScnF prog w pg gl (K' ++ fr) (z + 1) st2 tl' → Apart K' fr → LamOk lamX #[] ps' K' →
      LReads [] vs' ((remAll asl1 out).map .int) → (∀ q ∈ tl', q.1 ≠ 277) → (∀ q ∈ tl', q.1 ≠ sd) → (∀ q ∈ tl', q.1 ≠ al) → Q (.bool true) { s with heap := h', toks := tk' }),
    wpAny (model prog w) (ktrTop dp un gd cn cs L a ccd cl outer) (call (.ref 282) [.ref sd, .int g tg, .str word tw, .int k ta, .int many tm]) Q E s
def deed_f_P : TT → Prop := fun x => deed_f_S (y_prog x) (y_w x) (y_p x) (y_loose x) (y_mean x) (y_mg x) (y_mb x) (y_dp x) (y_un x) (y_gd x) (y_cn x) (y_cs x) (y_a x) (y_ccd x) (y_cl x) (y_outer x) (y_A₀ x) (y_base x) (y_h₀ x) (y_L x) (y_m x) (y_s x) (y_Q x) (y_E x) (y_tl x) (y_sd x) (y_al_ x) (y_pg x) (y_gl x) (y_tg x) (y_ta x) (y_tm x) (y_tw x) (y_t1 x) (y_t2 x) (y_t3 x) (y_na x) (y_z x) (y_as x) (y_asl x) (y_asl1 x) (y_g x) (y_k x) (y_many x) (y_word x) (y_b x) (y_out x) (y_st x) (y_st1 x) (y_st2 x) (y_osd x) (y_K x) (y_fr x) (y_ps x)
def deed_b_S (prog : Program) (w : World) (p : Program) (loose : List Str) (mean : ExcName → Option Value) (mg mb : Str → Option Value) (dp un : Nat) (gd : Option (List Code)) (cn : Str) (cs : Scope) (a : Addr) (ccd : Value) (cl : List (Str × Addr)) (outer : List Env) (A₀ : Around) (base h₀ : Heap) (L : Addr) (m : Str → Option Value) (s : Shared) (Q E : Value → Shared → Prop) (tl : List (Addr × Obj)) (sd al pg gl : Addr) (tg ta tm tw t1 t2 t3 : Tok) (na z : Nat) (as : List Value) (g k many : Int) (word tx : Str) (st : St) (osd : Obj) (K fr : List (Addr × Obj)) (ps : Array Value) : Prop := ∀ (B : Below A₀ base outer h₀) (F : Fr h₀ L s.heap m) (X : (heapK w.params).In h₀) (T : Top p loose mean mg mb h₀) (hk : cs.kind = .function) (N : News h₀ L s.heap ((277, tabObj ps) :: (sd, osd) :: (al, listOf as.toArray na) :: tl)) (hsd : Obj.IsDictOf (PySem.strKind prog w) osd (strPairs [(.str "plain" t1, .ref pg), (.str "gates" t2, .ref gl), (.str "asleep" t3, .ref al)])) (hS : ScnF prog w pg gl (K ++ fr) z st tl) (hK : Apart K fr) (hl : LamOk lamX #[] ps K) (hsm : Small z st) (hz : z ≤ 190) (h1 : QBad st word k many tx) (h2 : PBad st word k many tx) (hM : Match st) (hnd : [277, sd, al].Nodup) (ha1 : ∀ q ∈ tl, q.1 ≠ 277) (ha2 : ∀ q ∈ tl, q.1 ≠ sd) (ha3 : ∀ q ∈ tl, q.1 ≠ al) (hCH : CodeHd base 281 277) (XB : (heapK w.params).In base) (TB : Top p loose mean mg mb base) (hout : outer.filterMap (·.frame) = []) (hdp : dp + 28 < recursionLimit) (hun : un + 110 < cLine) (ret : ∀ h' tk' tl' ps' K', Fr h₀ L h' m → News h₀ L h' ((277, tabObj ps') :: (sd, osd) :: (al, listOf as.toArray na) :: tl') → ScnF prog w pg gl (K' ++ fr) z st tl' → Apart K' fr → LamOk lamX #[] ps' K' → (∀ q ∈ tl', q.1 ≠ 277) → (∀ q ∈ tl', q.1 ≠ sd) → (∀ q ∈ tl', q.1 ≠ al) → Q (.bool true) { s with heap := h', toks := tk' }),
    wpAny (model prog w) (ktrTop dp un gd cn cs L a ccd cl outer) (call (.ref 282) [.ref sd, .int g tg, .str word tw, .int k ta, .int many tm]) Q E s
def deed_b_P : TT → Prop := fun x => deed_b_S (y_prog x) (y_w x) (y_p x) (y_loose x) (y_mean x) (y_mg x) (y_mb x) (y_dp x) (y_un x) (y_gd x) (y_cn x) (y_cs x) (y_a x) (y_ccd x) (y_cl x) (y_outer x) (y_A₀ x) (y_base x) (y_h₀ x) (y_L x) (y_m x) (y_s x) (y_Q x) (y_E x) (y_tl x) (y_sd x) (y_al_ x) (y_pg x) (y_gl x) (y_tg x) (y_ta x) (y_tm x) (y_tw x) (y_t1 x) (y_t2 x) (y_t3 x) (y_na x) (y_z x) (y_as x) (y_g x) (y_k x) (y_many x) (y_word x) (y_tx x) (y_st x) (y_osd x) (y_K x) (y_fr x) (y_ps x)
def deed_stepT_S (prog : Program) (w : World) (p : Program) (loose : List Str) (mean : ExcName → Option Value) (mg mb : Str → Option Value) (dp un : Nat) (gd : Option (List Code)) (cn : Str) (cs : Scope) (a : Addr) (ccd : Value) (cl : List (Str × Addr)) (outer : List Env) (A₀ : Around) (base h₀ : Heap) (L : Addr) (m : Str → Option Value) (s : Shared) (Q E : Value → Shared → Prop) (sd al pg gl : Addr) (tg ta tm tw t1 t2 t3 : Tok) (na z : Nat) (as : List Value) (asl asl1 : List Int) (g k many : Int) (word : Str) (b : Bool) (out : List Int) (st st1 st2 : St) (osd : Obj) (fr D : List (Addr × Obj)) : Prop := ∀ (B : Below A₀ base outer h₀) (F : Fr h₀ L s.heap m) (X : (heapK w.params).In h₀) (T : Top p loose mean mg mb h₀) (hk : cs.kind = .function) (N : News h₀ L s.heap ((sd, osd) :: (al, listOf as.toArray na) :: (fr ++ D))) (hsd : Obj.IsDictOf (PySem.strKind prog w) osd (strPairs [(.str "plain" t1, .ref pg), (.str "gates" t2, .ref gl), (.str "asleep" t3, .ref al)])) (hD : DSt prog w pg gl sd al z st D) (hA : Apart fr D) (hsf : ∀ p ∈ fr, p.1 ≠ sd) (haf : ∀ p ∈ fr, p.1 ≠ al) (hI : Inv z st asl) (hz : z + 1 ≤ 190) (hras : LReads [] as (asl.map .int)) (hT : Told z st asl g word k many b out st1 st2 asl1) (hCH : CodeHd base 281 277) (hdp : dp + 28 < recursionLimit) (hun : un + 110 < cLine) (ret : ∀ h' tk' D' as' na', Fr h₀ L h' m → News h₀ L h' ((sd, osd) :: (al, listOf as'.toArray na') :: (fr ++ D')) → DSt prog w pg gl sd al (z + 1) st2 D' → LReads [] as' ((remAll asl1 out).map .int) → Apart fr D' → Q (.bool true) { s with heap := h', toks := tk' }),
    wpAny (model prog w) (ktrTop dp un gd cn cs L a ccd cl outer) (call (.ref 282) [.ref sd, .int g tg, .str word tw, .int k ta, .int many tm]) Q E s
def deed_stepT_P : TT → Prop := fun x => deed_stepT_S (y_prog x) (y_w x) (y_p x) (y_loose x) (y_mean x) (y_mg x) (y_mb x) (y_dp x) (y_un x) (y_gd x) (y_cn x) (y_cs x) (y_a x) (y_ccd x) (y_cl x) (y_outer x) (y_A₀ x) (y_base x) (y_h₀ x) (y_L x) (y_m x) (y_s x) (y_Q x) (y_E x) (y_sd x) (y_al_ x) (y_pg x) (y_gl x) (y_tg x) (y_ta x) (y_tm x) (y_tw x) (y_t1 x) (y_t2 x) (y_t3 x) (y_na x) (y_z x) (y_as x) (y_asl x) (y_asl1 x) (y_g x) (y_k x) (y_many x) (y_word x) (y_b x) (y_out x) (y_st x) (y_st1 x) (y_st2 x) (y_osd x) (y_fr x) (y_D x)
def deed_stepB_S (prog : Program) (w : World) (p : Program) (loose : List Str) (mean : ExcName → Option Value) (mg mb : Str → Option Value) (dp un : Nat) (gd : Option (List Code)) (cn : Str) (cs : Scope) (a : Addr) (ccd : Value) (cl : List (Str × Addr)) (outer : List Env) (A₀ : Around) (base h₀ : Heap) (L : Addr) (m : Str → Option Value) (s : Shared) (Q E : Value → Shared → Prop) (sd al pg gl : Addr) (tg ta tm tw t1 t2 t3 : Tok) (na z : Nat) (as : List Value) (asl : List Int) (g k many : Int) (word : Str) (st : St) (osd : Obj) (fr D : List (Addr × Obj)) (tx : Str) : Prop := ∀ (B : Below A₀ base outer h₀) (F : Fr h₀ L s.heap m) (X : (heapK w.params).In h₀) (T : Top p loose mean mg mb h₀) (hk : cs.kind = .function) (N : News h₀ L s.heap ((sd, osd) :: (al, listOf as.toArray na) :: (fr ++ D))) (hsd : Obj.IsDictOf (PySem.strKind prog w) osd (strPairs [(.str "plain" t1, .ref pg), (.str "gates" t2, .ref gl), (.str "asleep" t3, .ref al)])) (hD : DSt prog w pg gl sd al z st D) (hA : Apart fr D) (hsf : ∀ p ∈ fr, p.1 ≠ sd) (haf : ∀ p ∈ fr, p.1 ≠ al) (hI : Inv z st asl) (hz : z + 1 ≤ 190) (hras : LReads [] as (asl.map .int)) (h1 : QBad st word k many tx) (h2 : PBad st word k many tx) (XB : (heapK w.params).In base) (TB : Top p loose mean mg mb base) (hout : outer.filterMap (·.frame) = []) (hCH : CodeHd base 281 277) (hdp : dp + 28 < recursionLimit) (hun : un + 110 < cLine) (ret : ∀ h' tk' D', Fr h₀ L h' m → News h₀ L h' ((sd, osd) :: (al, listOf as.toArray na) :: (fr ++ D')) → DSt prog w pg gl sd al z st D' → Apart fr D' → Q (.bool true) { s with heap := h', toks := tk' }),
    wpAny (model prog w) (ktrTop dp un gd cn cs L a ccd cl outer) (call (.ref 282) [.ref sd, .int g tg, .str word tw, .int k ta, .int many tm]) Q E s
def deed_stepB_P : TT → Prop := fun x => deed_stepB_S (y_prog x) (y_w x) (y_p x) (y_loose x) (y_mean x) (y_mg x) (y_mb x) (y_dp x) (y_un x) (y_gd x) (y_cn x) (y_cs x) (y_a x) (y_ccd x) (y_cl x) (y_outer x) (y_A₀ x) (y_base x) (y_h₀ x) (y_L x) (y_m x) (y_s x) (y_Q x) (y_E x) (y_sd x) (y_al_ x) (y_pg x) (y_gl x) (y_tg x) (y_ta x) (y_tm x) (y_tw x) (y_t1 x) (y_t2 x) (y_t3 x) (y_na x) (y_z x) (y_as x) (y_asl x) (y_g x) (y_k x) (y_many x) (y_word x) (y_st x) (y_osd x) (y_fr x) (y_D x) (y_tx x)
def deed_step_S (prog : Program) (w : World) (p : Program) (loose : List Str) (mean : ExcName → Option Value) (mg mb : Str → Option Value) (dp un : Nat) (gd : Option (List Code)) (cn : Str) (cs : Scope) (a : Addr) (ccd : Value) (cl : List (Str × Addr)) (outer : List Env) (A₀ : Around) (base h₀ : Heap) (L : Addr) (m : Str → Option Value) (s : Shared) (Q E : Value → Shared → Prop) (sd al pg gl : Addr) (tg ta tm tw t1 t2 t3 : Tok) (na z : Nat) (as : List Value) (asl : List Int) (g k many : Int) (word : Str) (st st2 : St) (osd : Obj) (fr D : List (Addr × Obj)) : Prop := ∀ (B : Below A₀ base outer h₀) (F : Fr h₀ L s.heap m) (X : (heapK w.params).In h₀) (T : Top p loose mean mg mb h₀) (hk : cs.kind = .function) (N : News h₀ L s.heap ((sd, osd) :: (al, listOf as.toArray na) :: (fr ++ D))) (hsd : Obj.IsDictOf (PySem.strKind prog w) osd (strPairs [(.str "plain" t1, .ref pg), (.str "gates" t2, .ref gl), (.str "asleep" t3, .ref al)])) (hD : DSt prog w pg gl sd al z st D) (hA : Apart fr D) (hsf : ∀ p ∈ fr, p.1 ≠ sd) (haf : ∀ p ∈ fr, p.1 ≠ al) (hI : Inv z st asl) (hz : z + 1 ≤ 190) (hras : LReads [] as (asl.map .int)) (hg : g ∉ asl) (hW : Deed word k) (XB : (heapK w.params).In base) (TB : Top p loose mean mg mb base) (hout : outer.filterMap (·.frame) = []) (hCH : CodeHd base 281 277) (hdp : dp + 28 < recursionLimit) (hun : un + 110 < cLine) (ret : ∀ h' tk' D' as' na' st2 asl2, Fr h₀ L h' m → News h₀ L h' ((sd, osd) :: (al, listOf as'.toArray na') :: (fr ++ D')) → DSt prog w pg gl sd al (z + 1) st2 D' → LReads [] as' ((asl2).map .int) → Apart fr D' → Inv (z + 1) st2 asl2 → Q (.bool true) { s with heap := h', toks := tk' }),
    wpAny (model prog w) (ktrTop dp un gd cn cs L a ccd cl outer) (call (.ref 282) [.ref sd, .int g tg, .str word tw, .int k ta, .int many tm]) Q E s
def deed_step_P : TT → Prop := fun x => deed_step_S (y_prog x) (y_w x) (y_p x) (y_loose x) (y_mean x) (y_mg x) (y_mb x) (y_dp x) (y_un x) (y_gd x) (y_cn x) (y_cs x) (y_a x) (y_ccd x) (y_cl x) (y_outer x) (y_A₀ x) (y_base x) (y_h₀ x) (y_L x) (y_m x) (y_s x) (y_Q x) (y_E x) (y_sd x) (y_al_ x) (y_pg x) (y_gl x) (y_tg x) (y_ta x) (y_tm x) (y_tw x) (y_t1 x) (y_t2 x) (y_t3 x) (y_na x) (y_z x) (y_as x) (y_asl x) (y_g x) (y_k x) (y_many x) (y_word x) (y_st x) (y_st2 x) (y_osd x) (y_fr x) (y_D x)
def pool_c_S (prog : Program) (w : World) (p : Program) (loose : List Str) (mean : ExcName → Option Value) (mg mb : Str → Option Value) (dp un : Nat) (gd : Option (List Code)) (cn : Str) (cs : Scope) (a : Addr) (ccd : Value) (cl : List (Str × Addr)) (outer : List Env) (A₀ : Around) (base h₀ : Heap) (L : Addr) (m : Str → Option Value) (s : Shared) (Q E : Value → Shared → Prop) (tl : List (Addr × Obj)) (l : Addr) (vs : List Value) (xs : List Int) (tz : Tok) : Prop := ∀ (B : Below A₀ base outer h₀) (F : Fr h₀ L s.heap m) (X : (heapK w.params).In h₀) (T : Top p loose mean mg mb h₀) (hk : cs.kind = .function) (N : News h₀ L s.heap tl) (hl : base.IsList l vs.toArray) (hx : IntsAre vs xs) (hlen : ¬ ((63 : Nat) : Int) < (xs.length : Int)) (hdp : dp + 16 < recursionLimit) (hun : un + 90 < cLine) (ret : ∀ h' tk' r i j ta tb, Fr h₀ L h' m → News h₀ L h' ((r, listOf #[.int i ta, .int j tb] 0) :: tl) → (∀ q ∈ tl, q.1 ≠ r) → 0 ≤ i → 0 ≤ j → j < 2147483647 → Q (.ref r) { s with heap := h', toks := tk' }),
    wpAny (model prog w) (ktrTop dp un gd cn cs L a ccd cl outer) (call (.ref 221) [.ref l, .int 0 tz]) Q E s
def pool_c_P : TT → Prop := fun x => pool_c_S (y_prog x) (y_w x) (y_p x) (y_loose x) (y_mean x) (y_mg x) (y_mb x) (y_dp x) (y_un x) (y_gd x) (y_cn x) (y_cs x) (y_a x) (y_ccd x) (y_cl x) (y_outer x) (y_A₀ x) (y_base x) (y_h₀ x) (y_L x) (y_m x) (y_s x) (y_Q x) (y_E x) (y_tl x) (y_l x) (y_vs x) (y_xs x) (y_tz x)
def take_c_S (prog : Program) (w : World) (p : Program) (loose : List Str) (mean : ExcName → Option Value) (mg mb : Str → Option Value) (dp un : Nat) (gd : Option (List Code)) (cn : Str) (cs : Scope) (a : Addr) (ccd : Value) (cl : List (Str × Addr)) (outer : List Env) (A₀ : Around) (base h₀ : Heap) (L : Addr) (m : Str → Option Value) (s : Shared) (Q E : Value → Shared → Prop) (tl : List (Addr × Obj)) (l : Addr) (n : Nat) (i j top : Int) (ta tb tt : Tok) : Prop := ∀ (B : Below A₀ base outer h₀) (F : Fr h₀ L s.heap m) (X : (heapK w.params).In h₀) (T : Top p loose mean mg mb h₀) (hk : cs.kind = .function) (N : News h₀ L s.heap ((l, listOf #[.int i ta, .int j tb] n) :: tl)) (hs : ∀ q ∈ tl, q.1 ≠ l) (htop : 0 < top) (htop2 : top < 1000) (hi : 0 ≤ i) (hj : 0 ≤ j) (hj2 : j < 2147483647) (hdp : dp + 12 < recursionLimit) (hun : un + 80 < cLine) (ret : ∀ h' tk' k u i' j' ta' tb', Fr h₀ L h' m → News h₀ L h' ((l, listOf #[.int i' ta', .int j' tb'] n) :: tl) → 0 ≤ k → k < top → 0 ≤ i' → 0 ≤ j' → j' < 2147483647 → Q (.int k u) { s with heap := h', toks := tk' }),
    wpAny (model prog w) (ktrTop dp un gd cn cs L a ccd cl outer) (call (.ref 228) [.ref l, .int top tt]) Q E s
def take_c_P : TT → Prop := fun x => take_c_S (y_prog x) (y_w x) (y_p x) (y_loose x) (y_mean x) (y_mg x) (y_mb x) (y_dp x) (y_un x) (y_gd x) (y_cn x) (y_cs x) (y_a x) (y_ccd x) (y_cl x) (y_outer x) (y_A₀ x) (y_base x) (y_h₀ x) (y_L x) (y_m x) (y_s x) (y_Q x) (y_E x) (y_tl x) (y_l x) (y_n x) (y_i x) (y_j x) (y_top x) (y_ta x) (y_tb x) (y_tt x)
def one_c_S (prog : Program) (w : World) (p : Program) (loose : List Str) (mean : ExcName → Option Value) (mg mb : Str → Option Value) (dp un : Nat) (gd : Option (List Code)) (cn : Str) (cs : Scope) (a : Addr) (ccd : Value) (cl : List (Str × Addr)) (outer : List Env) (A₀ : Around) (base h₀ : Heap) (L : Addr) (m : Str → Option Value) (s : Shared) (Q E : Value → Shared → Prop) (tl : List (Addr × Obj)) (l t : Addr) (n n2 : Nat) (i j : Int) (ta tb : Tok) (vs : List Value) : Prop := ∀ (B : Below A₀ base outer h₀) (F : Fr h₀ L s.heap m) (X : (heapK w.params).In h₀) (T : Top p loose mean mg mb h₀) (hk : cs.kind = .function) (N : News h₀ L s.heap ((l, listOf #[.int i ta, .int j tb] n) :: (t, listOf vs.toArray n2) :: tl)) (hs : ∀ q ∈ tl, q.1 ≠ l) (hne : t ≠ l) (h0 : 0 < vs.length) (h1 : vs.length < 1000) (hi : 0 ≤ i) (hj : 0 ≤ j) (hj2 : j < 2147483647) (hdp : dp + 16 < recursionLimit) (hun : un + 90 < cLine) (ret : ∀ h' tk' (x : Nat) (v : Value) i' j' ta' tb', Fr h₀ L h' m → News h₀ L h' ((l, listOf #[.int i' ta', .int j' tb'] n) :: (t, listOf vs.toArray n2) :: tl) → vs[x]? = some v → 0 ≤ i' → 0 ≤ j' → j' < 2147483647 → Q v { s with heap := h', toks := tk' }),
    wpAny (model prog w) (ktrTop dp un gd cn cs L a ccd cl outer) (call (.ref 235) [.ref l, .ref t]) Q E s
def one_c_P : TT → Prop := fun x => one_c_S (y_prog x) (y_w x) (y_p x) (y_loose x) (y_mean x) (y_mg x) (y_mb x) (y_dp x) (y_un x) (y_gd x) (y_cn x) (y_cs x) (y_a x) (y_ccd x) (y_cl x) (y_outer x) (y_A₀ x) (y_base x) (y_h₀ x) (y_L x) (y_m x) (y_s x) (y_Q x) (y_E x) (y_tl x) (y_l x) (y_t x) (y_n x) (y_n2 x) (y_i x) (y_j x) (y_ta x) (y_tb x) (y_vs x)
def scene_c_S (prog : Program) (w : World) (p : Program) (loose : List Str) (mean : ExcName → Option Value) (mg mb : Str → Option Value) (dp un : Nat) (gd : Option (List Code)) (cn : Str) (cs : Scope) (a : Addr) (ccd : Value) (cl : List (Str × Addr)) (outer : List Env) (A₀ : Around) (base h₀ : Heap) (L : Addr) (m : Str → Option Value) (s : Shared) (Q E : Value → Shared → Prop) (tl : List (Addr × Obj)) : Prop := ∀ (B : Below A₀ base outer h₀) (F : Fr h₀ L s.heap m) (X : (heapK w.params).In h₀) (T : Top p loose mean mg mb h₀) (hk : cs.kind = .function) (N : News h₀ L s.heap tl) (hdp : dp + 16 < recursionLimit) (hun : un + 90 < cLine) (ret : ∀ h' tk' sd al pg gl osd t1 t2 t3 D, Fr h₀ L h' m → News h₀ L h' ((sd, osd) :: (al, listOf #[] 0) :: (D ++ tl)) →
      Obj.IsDictOf (PySem.strKind prog w) osd (strPairs [(.str "plain" t1, .ref pg), (.str "gates" t2, .ref gl), (.str "asleep" t3, .ref al)]) → Scn prog w pg gl 0 st0 D → (∀ q ∈ tl, q.1 ≠ sd) → (∀ q ∈ tl, q.1 ≠ al) → Apart tl D → sd ≠ al → (∀ q ∈ D, q.1 ≠ sd) → (∀ q ∈ D, q.1 ≠ al) → Q (.ref sd) { s with heap := h', toks := tk' }),
    wpAny (model prog w) (ktrTop dp un gd cn cs L a ccd cl outer) (call (.ref 242) []) Q E s
def scene_c_P : TT → Prop := fun x => scene_c_S (y_prog x) (y_w x) (y_p x) (y_loose x) (y_mean x) (y_mg x) (y_mb x) (y_dp x) (y_un x) (y_gd x) (y_cn x) (y_cs x) (y_a x) (y_ccd x) (y_cl x) (y_outer x) (y_A₀ x) (y_base x) (y_h₀ x) (y_L x) (y_m x) (y_s x) (y_Q x) (y_E x) (y_tl x)
def told_c_S (prog : Program) (w : World) (p : Program) (loose : List Str) (mean : ExcName → Option Value) (mg mb : Str → Option Value) (dp un : Nat) (gd : Option (List Code)) (cn : Str) (cs : Scope) (a : Addr) (ccd : Value) (cl : List (Str × Addr)) (outer : List Env) (A₀ : Around) (base h₀ : Heap) (L : Addr) (m : Str → Option Value) (s : Shared) (Q E : Value → Shared → Prop) (tl : List (Addr × Obj)) : Prop := ∀ (B : Below A₀ base outer h₀) (F : Fr h₀ L s.heap m) (X : (heapK w.params).In h₀) (T : Top p loose mean mg mb h₀) (hk : cs.kind = .function) (N : News h₀ L s.heap ((277, tabObj #[]) :: tl)) (h277 : ∀ q ∈ tl, q.1 ≠ 277) (hCH : CodeHd base 281 277) (hdp : dp + 34 < recursionLimit) (hun : un + 120 < cLine) (ret : ∀ h' tk' K, Fr h₀ L h' m → News h₀ L h' (K ++ tl) → LTab K → Apart tl K → Q (.bool true) { s with heap := h', toks := tk' }),
    wpAny (model prog w) (ktrTop dp un gd cn cs L a ccd cl outer) (call (.ref 289) []) Q E s
def told_c_P : TT → Prop := fun x => told_c_S (y_prog x) (y_w x) (y_p x) (y_loose x) (y_mean x) (y_mg x) (y_mb x) (y_dp x) (y_un x) (y_gd x) (y_cn x) (y_cs x) (y_a x) (y_ccd x) (y_cl x) (y_outer x) (y_A₀ x) (y_base x) (y_h₀ x) (y_L x) (y_m x) (y_s x) (y_Q x) (y_E x) (y_tl x)
noncomputable def k_62 : TT := Classical.choice neTT
noncomputable def k_61 : TT := pk told_c_P k_62
noncomputable def k_60 : TT := pk scene_c_P k_61
noncomputable def k_59 : TT := pk one_c_P k_60
noncomputable def k_58 : TT := pk take_c_P k_59
noncomputable def k_57 : TT := pk pool_c_P k_58
noncomputable def k_56 : TT := pk deed_step_P k_57
noncomputable def k_55 : TT := pk deed_stepB_P k_56
noncomputable def k_54 : TT := pk deed_stepT_P k_55
noncomputable def k_53 : TT := pk deed_b_P k_54
noncomputable def k_52 : TT := pk deed_f_P k_53
noncomputable def k_51 : TT := pk stands_okF_P k_52
noncomputable def k_50 : TT := pk plain_badF_P k_51
noncomputable def k_49 : TT := pk queued_badF_P k_50
noncomputable def k_48 : TT := pk plain_okF_P k_49
noncomputable def k_47 : TT := pk queued_okF_P k_48
noncomputable def k_46 : TT := pk stands_ok_P k_47
noncomputable def k_45 : TT := pk plain_bad_P k_46
noncomputable def k_44 : TT := pk plain_ok_P k_45
noncomputable def k_43 : TT := pk queued_bad_P k_44
noncomputable def k_42 : TT := pk queued_ok_P k_43
noncomputable def k_41 : TT := pk S_wait_non_P k_42
noncomputable def k_40 : TT := pk S_wait_zero_P k_41
noncomputable def k_39 : TT := pk S_add_zero_P k_40
noncomputable def k_38 : TT := pk S_add_pos_P k_39
noncomputable def k_37 : TT := pk S_add_neg_P k_38
noncomputable def k_36 : TT := pk S_unl_first_P k_37
noncomputable def k_35 : TT := pk S_unl_none_P k_36
noncomputable def k_34 : TT := pk S_unl_bad_P k_35
noncomputable def k_33 : TT := pk S_lock_held_P k_34
noncomputable def k_32 : TT := pk S_lock_free_P k_33
noncomputable def k_31 : TT := pk L_add_zero_P k_32
noncomputable def k_30 : TT := pk L_add_pos_P k_31
noncomputable def k_29 : TT := pk L_add_neg_P k_30
noncomputable def k_28 : TT := pk L_unl_first_P k_29
noncomputable def k_27 : TT := pk L_unl_none_P k_28
noncomputable def k_26 : TT := pk L_unl_bad_P k_27
noncomputable def k_25 : TT := pk L_wait_non_P k_26
noncomputable def k_24 : TT := pk L_wait_zero_P k_25
noncomputable def k_23 : TT := pk L_lock_held_P k_24
noncomputable def k_22 : TT := pk L_lock_free_P k_23
noncomputable def k_21 : TT := pk W_wait_non_P k_22
noncomputable def k_20 : TT := pk W_wait_zero_P k_21
noncomputable def k_19 : TT := pk W_add_zero_P k_20
noncomputable def k_18 : TT := pk W_add_pos_P k_19
noncomputable def k_17 : TT := pk W_add_neg_P k_18
noncomputable def k_16 : TT := pk M_isl_some_P k_17
noncomputable def k_15 : TT := pk M_isl_none_P k_16
noncomputable def k_14 : TT := pk M_unl_bad_P k_15
noncomputable def k_13 : TT := pk M_unl_first_P k_14
noncomputable def k_12 : TT := pk M_unl_none_P k_13
noncomputable def k_11 : TT := pk M_lock_held_P k_12
noncomputable def k_10 : TT := pk M_lock_free_P k_11
noncomputable def k_9 : TT := pk P_unl_first_P k_10
noncomputable def k_8 : TT := pk P_unl_none_P k_9
noncomputable def k_7 : TT := pk P_unl_bad_P k_8
noncomputable def k_6 : TT := pk P_add_zero_P k_7
noncomputable def k_5 : TT := pk P_add_pos_P k_6
noncomputable def k_4 : TT := pk P_add_neg_P k_5
noncomputable def k_3 : TT := pk P_wait_non_P k_4
noncomputable def k_2 : TT := pk P_wait_zero_P k_3
noncomputable def k_1 : TT := pk P_lock_held_P k_2
noncomputable def k_0 : TT := pk P_lock_free_P k_1
noncomputable def cc : TT := k_0
noncomputable def c_prog : Program := cc.1
noncomputable def c_w : World := cc.2.1
noncomputable def c_p : Program := cc.2.2.1
noncomputable def c_loose : List Str := cc.2.2.2.1
noncomputable def c_mean : ExcName → Option Value := cc.2.2.2.2.1
noncomputable def c_mg : Str → Option Value := cc.2.2.2.2.2.1
noncomputable def c_mb : Str → Option Value := cc.2.2.2.2.2.2.1
noncomputable def c_dp : Nat := cc.2.2.2.2.2.2.2.1
noncomputable def c_un : Nat := cc.2.2.2.2.2.2.2.2.1
noncomputable def c_gd : Option (List Code) := cc.2.2.2.2.2.2.2.2.2.1
noncomputable def c_cn : Str := cc.2.2.2.2.2.2.2.2.2.2.1
noncomputable def c_cs : Scope := cc.2.2.2.2.2.2.2.2.2.2.2.1
noncomputable def c_a : Addr := cc.2.2.2.2.2.2.2.2.2.2.2.2.1
noncomputable def c_ccd : Value := cc.2.2.2.2.2.2.2.2.2.2.2.2.2.1
noncomputable def c_cl : List (Str × Addr) := cc.2.2.2.2.2.2.2.2.2.2.2.2.2.2.1
noncomputable def c_outer : List Env := cc.2.2.2.2.2.2.2.2.2.2.2.2.2.2.2.1
noncomputable def c_A₀ : Around := cc.2.2.2.2.2.2.2.2.2.2.2.2.2.2.2.2.1
noncomputable def c_base : Heap := cc.2.2.2.2.2.2.2.2.2.2.2.2.2.2.2.2.2.1
noncomputable def c_h₀ : Heap := cc.2.2.2.2.2.2.2.2.2.2.2.2.2.2.2.2.2.2.1
noncomputable def c_L : Addr := cc.2.2.2.2.2.2.2.2.2.2.2.2.2.2.2.2.2.2.2.1
noncomputable def c_m : Str → Option Value := cc.2.2.2.2.2.2.2.2.2.2.2.2.2.2.2.2.2.2.2.2.1
noncomputable def c_s : Shared := cc.2.2.2.2.2.2.2.2.2.2.2.2.2.2.2.2.2.2.2.2.2.1
noncomputable def c_Q : Value → Shared → Prop := cc.2.2.2.2.2.2.2.2.2.2.2.2.2.2.2.2.2.2.2.2.2.2.1
noncomputable def c_E : Value → Shared → Prop := cc.2.2.2.2.2.2.2.2.2.2.2.2.2.2.2.2.2.2.2.2.2.2.2.1
noncomputable def c_tl : List (Addr × Obj) := cc.2.2.2.2.2.2.2.2.2.2.2.2.2.2.2.2.2.2.2.2.2.2.2.2.1
noncomputable def c_tg : Tok := cc.2.2.2.2.2.2.2.2.2.2.2.2.2.2.2.2.2.2.2.2.2.2.2.2.2.1
noncomputable def c_t1 : Tok := cc.2.2.2.2.2.2.2.2.2.2.2.2.2.2.2.2.2.2.2.2.2.2.2.2.2.2.1
noncomputable def c_t2 : Tok := cc.2.2.2.2.2.2.2.2.2.2.2.2.2.2.2.2.2.2.2.2.2.2.2.2.2.2.2.1
noncomputable def c_g : Int := cc.2.2.2.2.2.2.2.2.2.2.2.2.2.2.2.2.2.2.2.2.2.2.2.2.2.2.2.2.1
noncomputable def c_k : Int := cc.2.2.2.2.2.2.2.2.2.2.2.2.2.2.2.2.2.2.2.2.2.2.2.2.2.2.2.2.2.1
noncomputable def c_wl : Addr := cc.2.2.2.2.2.2.2.2.2.2.2.2.2.2.2.2.2.2.2.2.2.2.2.2.2.2.2.2.2.2.1
noncomputable def c_many : Int := cc.2.2.2.2.2.2.2.2.2.2.2.2.2.2.2.2.2.2.2.2.2.2.2.2.2.2.2.2.2.2.2.1
noncomputable def c_pg : Addr := cc.2.2.2.2.2.2.2.2.2.2.2.2.2.2.2.2.2.2.2.2.2.2.2.2.2.2.2.2.2.2.2.2.1
noncomputable def c_sd : Addr := cc.2.2.2.2.2.2.2.2.2.2.2.2.2.2.2.2.2.2.2.2.2.2.2.2.2.2.2.2.2.2.2.2.2.1
noncomputable def c_ta : Tok := cc.2.2.2.2.2.2.2.2.2.2.2.2.2.2.2.2.2.2.2.2.2.2.2.2.2.2.2.2.2.2.2.2.2.2.1
noncomputable def c_t3 : Tok := cc.2.2.2.2.2.2.2.2.2.2.2.2.2.2.2.2.2.2.2.2.2.2.2.2.2.2.2.2.2.2.2.2.2.2.2.1
noncomputable def c_osd : Obj := cc.2.2.2.2.2.2.2.2.2.2.2.2.2.2.2.2.2.2.2.2.2.2.2.2.2.2.2.2.2.2.2.2.2.2.2.2.1
noncomputable def c_tm : Tok := cc.2.2.2.2.2.2.2.2.2.2.2.2.2.2.2.2.2.2.2.2.2.2.2.2.2.2.2.2.2.2.2.2.2.2.2.2.2.1
noncomputable def c_tw : Tok := cc.2.2.2.2.2.2.2.2.2.2.2.2.2.2.2.2.2.2.2.2.2.2.2.2.2.2.2.2.2.2.2.2.2.2.2.2.2.2.1
noncomputable def c_t4 : Tok := cc.2.2.2.2.2.2.2.2.2.2.2.2.2.2.2.2.2.2.2.2.2.2.2.2.2.2.2.2.2.2.2.2.2.2.2.2.2.2.2.1
noncomputable def c_t5 : Tok := cc.2.2.2.2.2.2.2.2.2.2.2.2.2.2.2.2.2.2.2.2.2.2.2.2.2.2.2.2.2.2.2.2.2.2.2.2.2.2.2.2.1
noncomputable def c_al : Value := cc.2.2.2.2.2.2.2.2.2.2.2.2.2.2.2.2.2.2.2.2.2.2.2.2.2.2.2.2.2.2.2.2.2.2.2.2.2.2.2.2.2.1
noncomputable def c_gl : Addr := cc.2.2.2.2.2.2.2.2.2.2.2.2.2.2.2.2.2.2.2.2.2.2.2.2.2.2.2.2.2.2.2.2.2.2.2.2.2.2.2.2.2.2.1
noncomputable def c_n : Nat := cc.2.2.2.2.2.2.2.2.2.2.2.2.2.2.2.2.2.2.2.2.2.2.2.2.2.2.2.2.2.2.2.2.2.2.2.2.2.2.2.2.2.2.2.1
noncomputable def c_vs : List Value := cc.2.2.2.2.2.2.2.2.2.2.2.2.2.2.2.2.2.2.2.2.2.2.2.2.2.2.2.2.2.2.2.2.2.2.2.2.2.2.2.2.2.2.2.2.1
noncomputable def c_x : Addr := cc.2.2.2.2.2.2.2.2.2.2.2.2.2.2.2.2.2.2.2.2.2.2.2.2.2.2.2.2.2.2.2.2.2.2.2.2.2.2.2.2.2.2.2.2.2.1
noncomputable def c_xd : Addr := cc.2.2.2.2.2.2.2.2.2.2.2.2.2.2.2.2.2.2.2.2.2.2.2.2.2.2.2.2.2.2.2.2.2.2.2.2.2.2.2.2.2.2.2.2.2.2.1
noncomputable def c_q : List Int := cc.2.2.2.2.2.2.2.2.2.2.2.2.2.2.2.2.2.2.2.2.2.2.2.2.2.2.2.2.2.2.2.2.2.2.2.2.2.2.2.2.2.2.2.2.2.2.2.1
noncomputable def c_pd : Addr := cc.2.2.2.2.2.2.2.2.2.2.2.2.2.2.2.2.2.2.2.2.2.2.2.2.2.2.2.2.2.2.2.2.2.2.2.2.2.2.2.2.2.2.2.2.2.2.2.2.1
noncomputable def c_hl : Addr := cc.2.2.2.2.2.2.2.2.2.2.2.2.2.2.2.2.2.2.2.2.2.2.2.2.2.2.2.2.2.2.2.2.2.2.2.2.2.2.2.2.2.2.2.2.2.2.2.2.2.1
noncomputable def c_dc : Addr := cc.2.2.2.2.2.2.2.2.2.2.2.2.2.2.2.2.2.2.2.2.2.2.2.2.2.2.2.2.2.2.2.2.2.2.2.2.2.2.2.2.2.2.2.2.2.2.2.2.2.2.1
noncomputable def c_t6 : Tok := cc.2.2.2.2.2.2.2.2.2.2.2.2.2.2.2.2.2.2.2.2.2.2.2.2.2.2.2.2.2.2.2.2.2.2.2.2.2.2.2.2.2.2.2.2.2.2.2.2.2.2.2.1
noncomputable def c_nt : Nat := cc.2.2.2.2.2.2.2.2.2.2.2.2.2.2.2.2.2.2.2.2.2.2.2.2.2.2.2.2.2.2.2.2.2.2.2.2.2.2.2.2.2.2.2.2.2.2.2.2.2.2.2.2.1
noncomputable def c_n1 : Nat := cc.2.2.2.2.2.2.2.2.2.2.2.2.2.2.2.2.2.2.2.2.2.2.2.2.2.2.2.2.2.2.2.2.2.2.2.2.2.2.2.2.2.2.2.2.2.2.2.2.2.2.2.2.2.1
noncomputable def c_n3 : Nat := cc.2.2.2.2.2.2.2.2.2.2.2.2.2.2.2.2.2.2.2.2.2.2.2.2.2.2.2.2.2.2.2.2.2.2.2.2.2.2.2.2.2.2.2.2.2.2.2.2.2.2.2.2.2.2.1
noncomputable def c_cnt : Int → Int := cc.2.2.2.2.2.2.2.2.2.2.2.2.2.2.2.2.2.2.2.2.2.2.2.2.2.2.2.2.2.2.2.2.2.2.2.2.2.2.2.2.2.2.2.2.2.2.2.2.2.2.2.2.2.2.2.1
noncomputable def c_hs : List Value := cc.2.2.2.2.2.2.2.2.2.2.2.2.2.2.2.2.2.2.2.2.2.2.2.2.2.2.2.2.2.2.2.2.2.2.2.2.2.2.2.2.2.2.2.2.2.2.2.2.2.2.2.2.2.2.2.2.1
noncomputable def c_ws : List Value := cc.2.2.2.2.2.2.2.2.2.2.2.2.2.2.2.2.2.2.2.2.2.2.2.2.2.2.2.2.2.2.2.2.2.2.2.2.2.2.2.2.2.2.2.2.2.2.2.2.2.2.2.2.2.2.2.2.2.1
noncomputable def c_held : List Int := cc.2.2.2.2.2.2.2.2.2.2.2.2.2.2.2.2.2.2.2.2.2.2.2.2.2.2.2.2.2.2.2.2.2.2.2.2.2.2.2.2.2.2.2.2.2.2.2.2.2.2.2.2.2.2.2.2.2.2.1
noncomputable def c_rows : List (Int × Int) := cc.2.2.2.2.2.2.2.2.2.2.2.2.2.2.2.2.2.2.2.2.2.2.2.2.2.2.2.2.2.2.2.2.2.2.2.2.2.2.2.2.2.2.2.2.2.2.2.2.2.2.2.2.2.2.2.2.2.2.2.1
noncomputable def c_oc : Obj := cc.2.2.2.2.2.2.2.2.2.2.2.2.2.2.2.2.2.2.2.2.2.2.2.2.2.2.2.2.2.2.2.2.2.2.2.2.2.2.2.2.2.2.2.2.2.2.2.2.2.2.2.2.2.2.2.2.2.2.2.2.1
noncomputable def c_TT : List (Addr × Obj) := cc.2.2.2.2.2.2.2.2.2.2.2.2.2.2.2.2.2.2.2.2.2.2.2.2.2.2.2.2.2.2.2.2.2.2.2.2.2.2.2.2.2.2.2.2.2.2.2.2.2.2.2.2.2.2.2.2.2.2.2.2.2.1
noncomputable def c_z : Nat := cc.2.2.2.2.2.2.2.2.2.2.2.2.2.2.2.2.2.2.2.2.2.2.2.2.2.2.2.2.2.2.2.2.2.2.2.2.2.2.2.2.2.2.2.2.2.2.2.2.2.2.2.2.2.2.2.2.2.2.2.2.2.2.1
noncomputable def c_fr : List (Addr × Obj) := cc.2.2.2.2.2.2.2.2.2.2.2.2.2.2.2.2.2.2.2.2.2.2.2.2.2.2.2.2.2.2.2.2.2.2.2.2.2.2.2.2.2.2.2.2.2.2.2.2.2.2.2.2.2.2.2.2.2.2.2.2.2.2.2.1
noncomputable def c_st : St := cc.2.2.2.2.2.2.2.2.2.2.2.2.2.2.2.2.2.2.2.2.2.2.2.2.2.2.2.2.2.2.2.2.2.2.2.2.2.2.2.2.2.2.2.2.2.2.2.2.2.2.2.2.2.2.2.2.2.2.2.2.2.2.2.2.1
noncomputable def c_word : Str := cc.2.2.2.2.2.2.2.2.2.2.2.2.2.2.2.2.2.2.2.2.2.2.2.2.2.2.2.2.2.2.2.2.2.2.2.2.2.2.2.2.2.2.2.2.2.2.2.2.2.2.2.2.2.2.2.2.2.2.2.2.2.2.2.2.2.1
noncomputable def c_pl : Addr := cc.2.2.2.2.2.2.2.2.2.2.2.2.2.2.2.2.2.2.2.2.2.2.2.2.2.2.2.2.2.2.2.2.2.2.2.2.2.2.2.2.2.2.2.2.2.2.2.2.2.2.2.2.2.2.2.2.2.2.2.2.2.2.2.2.2.2.1
noncomputable def c_tc : Tok := cc.2.2.2.2.2.2.2.2.2.2.2.2.2.2.2.2.2.2.2.2.2.2.2.2.2.2.2.2.2.2.2.2.2.2.2.2.2.2.2.2.2.2.2.2.2.2.2.2.2.2.2.2.2.2.2.2.2.2.2.2.2.2.2.2.2.2.2.1
noncomputable def c_c : Int := cc.2.2.2.2.2.2.2.2.2.2.2.2.2.2.2.2.2.2.2.2.2.2.2.2.2.2.2.2.2.2.2.2.2.2.2.2.2.2.2.2.2.2.2.2.2.2.2.2.2.2.2.2.2.2.2.2.2.2.2.2.2.2.2.2.2.2.2.2.1
noncomputable def c_gl_ : Value := cc.2.2.2.2.2.2.2.2.2.2.2.2.2.2.2.2.2.2.2.2.2.2.2.2.2.2.2.2.2.2.2.2.2.2.2.2.2.2.2.2.2.2.2.2.2.2.2.2.2.2.2.2.2.2.2.2.2.2.2.2.2.2.2.2.2.2.2.2.2.1
noncomputable def c_ng : Nat := cc.2.2.2.2.2.2.2.2.2.2.2.2.2.2.2.2.2.2.2.2.2.2.2.2.2.2.2.2.2.2.2.2.2.2.2.2.2.2.2.2.2.2.2.2.2.2.2.2.2.2.2.2.2.2.2.2.2.2.2.2.2.2.2.2.2.2.2.2.2.2.1
noncomputable def c_gs : List Value := cc.2.2.2.2.2.2.2.2.2.2.2.2.2.2.2.2.2.2.2.2.2.2.2.2.2.2.2.2.2.2.2.2.2.2.2.2.2.2.2.2.2.2.2.2.2.2.2.2.2.2.2.2.2.2.2.2.2.2.2.2.2.2.2.2.2.2.2.2.2.2.2.1
noncomputable def c_pv : Value := cc.2.2.2.2.2.2.2.2.2.2.2.2.2.2.2.2.2.2.2.2.2.2.2.2.2.2.2.2.2.2.2.2.2.2.2.2.2.2.2.2.2.2.2.2.2.2.2.2.2.2.2.2.2.2.2.2.2.2.2.2.2.2.2.2.2.2.2.2.2.2.2.2.1
noncomputable def c_to : Tok := cc.2.2.2.2.2.2.2.2.2.2.2.2.2.2.2.2.2.2.2.2.2.2.2.2.2.2.2.2.2.2.2.2.2.2.2.2.2.2.2.2.2.2.2.2.2.2.2.2.2.2.2.2.2.2.2.2.2.2.2.2.2.2.2.2.2.2.2.2.2.2.2.2.2.1
noncomputable def c_o : Int := cc.2.2.2.2.2.2.2.2.2.2.2.2.2.2.2.2.2.2.2.2.2.2.2.2.2.2.2.2.2.2.2.2.2.2.2.2.2.2.2.2.2.2.2.2.2.2.2.2.2.2.2.2.2.2.2.2.2.2.2.2.2.2.2.2.2.2.2.2.2.2.2.2.2.2.1
noncomputable def c_b : Bool := cc.2.2.2.2.2.2.2.2.2.2.2.2.2.2.2.2.2.2.2.2.2.2.2.2.2.2.2.2.2.2.2.2.2.2.2.2.2.2.2.2.2.2.2.2.2.2.2.2.2.2.2.2.2.2.2.2.2.2.2.2.2.2.2.2.2.2.2.2.2.2.2.2.2.2.2.1
noncomputable def c_out : List Int := cc.2.2.2.2.2.2.2.2.2.2.2.2.2.2.2.2.2.2.2.2.2.2.2.2.2.2.2.2.2.2.2.2.2.2.2.2.2.2.2.2.2.2.2.2.2.2.2.2.2.2.2.2.2.2.2.2.2.2.2.2.2.2.2.2.2.2.2.2.2.2.2.2.2.2.2.2.1
noncomputable def c_tx : Str := cc.2.2.2.2.2.2.2.2.2.2.2.2.2.2.2.2.2.2.2.2.2.2.2.2.2.2.2.2.2.2.2.2.2.2.2.2.2.2.2.2.2.2.2.2.2.2.2.2.2.2.2.2.2.2.2.2.2.2.2.2.2.2.2.2.2.2.2.2.2.2.2.2.2.2.2.2.2.1
noncomputable def c_G : List (Addr × Obj) := cc.2.2.2.2.2.2.2.2.2.2.2.2.2.2.2.2.2.2.2.2.2.2.2.2.2.2.2.2.2.2.2.2.2.2.2.2.2.2.2.2.2.2.2.2.2.2.2.2.2.2.2.2.2.2.2.2.2.2.2.2.2.2.2.2.2.2.2.2.2.2.2.2.2.2.2.2.2.2.1
noncomputable def c_al_ : Addr := cc.2.2.2.2.2.2.2.2.2.2.2.2.2.2.2.2.2.2.2.2.2.2.2.2.2.2.2.2.2.2.2.2.2.2.2.2.2.2.2.2.2.2.2.2.2.2.2.2.2.2.2.2.2.2.2.2.2.2.2.2.2.2.2.2.2.2.2.2.2.2.2.2.2.2.2.2.2.2.2.1
noncomputable def c_na : Nat := cc.2.2.2.2.2.2.2.2.2.2.2.2.2.2.2.2.2.2.2.2.2.2.2.2.2.2.2.2.2.2.2.2.2.2.2.2.2.2.2.2.2.2.2.2.2.2.2.2.2.2.2.2.2.2.2.2.2.2.2.2.2.2.2.2.2.2.2.2.2.2.2.2.2.2.2.2.2.2.2.2.1
noncomputable def c_as : List Value := cc.2.2.2.2.2.2.2.2.2.2.2.2.2.2.2.2.2.2.2.2.2.2.2.2.2.2.2.2.2.2.2.2.2.2.2.2.2.2.2.2.2.2.2.2.2.2.2.2.2.2.2.2.2.2.2.2.2.2.2.2.2.2.2.2.2.2.2.2.2.2.2.2.2.2.2.2.2.2.2.2.2.1
noncomputable def c_st' : St := cc.2.2.2.2.2.2.2.2.2.2.2.2.2.2.2.2.2.2.2.2.2.2.2.2.2.2.2.2.2.2.2.2.2.2.2.2.2.2.2.2.2.2.2.2.2.2.2.2.2.2.2.2.2.2.2.2.2.2.2.2.2.2.2.2.2.2.2.2.2.2.2.2.2.2.2.2.2.2.2.2.2.2.1
noncomputable def c_asl : List Int := cc.2.2.2.2.2.2.2.2.2.2.2.2.2.2.2.2.2.2.2.2.2.2.2.2.2.2.2.2.2.2.2.2.2.2.2.2.2.2.2.2.2.2.2.2.2.2.2.2.2.2.2.2.2.2.2.2.2.2.2.2.2.2.2.2.2.2.2.2.2.2.2.2.2.2.2.2.2.2.2.2.2.2.2.1
noncomputable def c_st2 : St := cc.2.2.2.2.2.2.2.2.2.2.2.2.2.2.2.2.2.2.2.2.2.2.2.2.2.2.2.2.2.2.2.2.2.2.2.2.2.2.2.2.2.2.2.2.2.2.2.2.2.2.2.2.2.2.2.2.2.2.2.2.2.2.2.2.2.2.2.2.2.2.2.2.2.2.2.2.2.2.2.2.2.2.2.2.1
noncomputable def c_D : List (Addr × Obj) := cc.2.2.2.2.2.2.2.2.2.2.2.2.2.2.2.2.2.2.2.2.2.2.2.2.2.2.2.2.2.2.2.2.2.2.2.2.2.2.2.2.2.2.2.2.2.2.2.2.2.2.2.2.2.2.2.2.2.2.2.2.2.2.2.2.2.2.2.2.2.2.2.2.2.2.2.2.2.2.2.2.2.2.2.2.2.1
noncomputable def c_l : Addr := cc.2.2.2.2.2.2.2.2.2.2.2.2.2.2.2.2.2.2.2.2.2.2.2.2.2.2.2.2.2.2.2.2.2.2.2.2.2.2.2.2.2.2.2.2.2.2.2.2.2.2.2.2.2.2.2.2.2.2.2.2.2.2.2.2.2.2.2.2.2.2.2.2.2.2.2.2.2.2.2.2.2.2.2.2.2.2.1
noncomputable def c_pre : List (Int × Int) := cc.2.2.2.2.2.2.2.2.2.2.2.2.2.2.2.2.2.2.2.2.2.2.2.2.2.2.2.2.2.2.2.2.2.2.2.2.2.2.2.2.2.2.2.2.2.2.2.2.2.2.2.2.2.2.2.2.2.2.2.2.2.2.2.2.2.2.2.2.2.2.2.2.2.2.2.2.2.2.2.2.2.2.2.2.2.2.2.1
noncomputable def c_post : List (Int × Int) := cc.2.2.2.2.2.2.2.2.2.2.2.2.2.2.2.2.2.2.2.2.2.2.2.2.2.2.2.2.2.2.2.2.2.2.2.2.2.2.2.2.2.2.2.2.2.2.2.2.2.2.2.2.2.2.2.2.2.2.2.2.2.2.2.2.2.2.2.2.2.2.2.2.2.2.2.2.2.2.2.2.2.2.2.2.2.2.2.2.1
noncomputable def c_qs : List Int := cc.2.2.2.2.2.2.2.2.2.2.2.2.2.2.2.2.2.2.2.2.2.2.2.2.2.2.2.2.2.2.2.2.2.2.2.2.2.2.2.2.2.2.2.2.2.2.2.2.2.2.2.2.2.2.2.2.2.2.2.2.2.2.2.2.2.2.2.2.2.2.2.2.2.2.2.2.2.2.2.2.2.2.2.2.2.2.2.2.2.1
noncomputable def c_tr : Tok := cc.2.2.2.2.2.2.2.2.2.2.2.2.2.2.2.2.2.2.2.2.2.2.2.2.2.2.2.2.2.2.2.2.2.2.2.2.2.2.2.2.2.2.2.2.2.2.2.2.2.2.2.2.2.2.2.2.2.2.2.2.2.2.2.2.2.2.2.2.2.2.2.2.2.2.2.2.2.2.2.2.2.2.2.2.2.2.2.2.2.2.1
noncomputable def c_asl1 : List Int := cc.2.2.2.2.2.2.2.2.2.2.2.2.2.2.2.2.2.2.2.2.2.2.2.2.2.2.2.2.2.2.2.2.2.2.2.2.2.2.2.2.2.2.2.2.2.2.2.2.2.2.2.2.2.2.2.2.2.2.2.2.2.2.2.2.2.2.2.2.2.2.2.2.2.2.2.2.2.2.2.2.2.2.2.2.2.2.2.2.2.2.2.1
noncomputable def c_st1 : St := cc.2.2.2.2.2.2.2.2.2.2.2.2.2.2.2.2.2.2.2.2.2.2.2.2.2.2.2.2.2.2.2.2.2.2.2.2.2.2.2.2.2.2.2.2.2.2.2.2.2.2.2.2.2.2.2.2.2.2.2.2.2.2.2.2.2.2.2.2.2.2.2.2.2.2.2.2.2.2.2.2.2.2.2.2.2.2.2.2.2.2.2.2.1
noncomputable def c_K : List (Addr × Obj) := cc.2.2.2.2.2.2.2.2.2.2.2.2.2.2.2.2.2.2.2.2.2.2.2.2.2.2.2.2.2.2.2.2.2.2.2.2.2.2.2.2.2.2.2.2.2.2.2.2.2.2.2.2.2.2.2.2.2.2.2.2.2.2.2.2.2.2.2.2.2.2.2.2.2.2.2.2.2.2.2.2.2.2.2.2.2.2.2.2.2.2.2.2.2.1
noncomputable def c_ps : Array Value := cc.2.2.2.2.2.2.2.2.2.2.2.2.2.2.2.2.2.2.2.2.2.2.2.2.2.2.2.2.2.2.2.2.2.2.2.2.2.2.2.2.2.2.2.2.2.2.2.2.2.2.2.2.2.2.2.2.2.2.2.2.2.2.2.2.2.2.2.2.2.2.2.2.2.2.2.2.2.2.2.2.2.2.2.2.2.2.2.2.2.2.2.2.2.2.1
noncomputable def c_i : Int := cc.2.2.2.2.2.2.2.2.2.2.2.2.2.2.2.2.2.2.2.2.2.2.2.2.2.2.2.2.2.2.2.2.2.2.2.2.2.2.2.2.2.2.2.2.2.2.2.2.2.2.2.2.2.2.2.2.2.2.2.2.2.2.2.2.2.2.2.2.2.2.2.2.2.2.2.2.2.2.2.2.2.2.2.2.2.2.2.2.2.2.2.2.2.2.2.1
noncomputable def c_j : Int := cc.2.2.2.2.2.2.2.2.2.2.2.2.2.2.2.2.2.2.2.2.2.2.2.2.2.2.2.2.2.2.2.2.2.2.2.2.2.2.2.2.2.2.2.2.2.2.2.2.2.2.2.2.2.2.2.2.2.2.2.2.2.2.2.2.2.2.2.2.2.2.2.2.2.2.2.2.2.2.2.2.2.2.2.2.2.2.2.2.2.2.2.2.2.2.2.2.1
noncomputable def c_tb : Tok := cc.2.2.2.2.2.2.2.2.2.2.2.2.2.2.2.2.2.2.2.2.2.2.2.2.2.2.2.2.2.2.2.2.2.2.2.2.2.2.2.2.2.2.2.2.2.2.2.2.2.2.2.2.2.2.2.2.2.2.2.2.2.2.2.2.2.2.2.2.2.2.2.2.2.2.2.2.2.2.2.2.2.2.2.2.2.2.2.2.2.2.2.2.2.2.2.2.2.1
noncomputable def c_r : Int := cc.2.2.2.2.2.2.2.2.2.2.2.2.2.2.2.2.2.2.2.2.2.2.2.2.2.2.2.2.2.2.2.2.2.2.2.2.2.2.2.2.2.2.2.2.2.2.2.2.2.2.2.2.2.2.2.2.2.2.2.2.2.2.2.2.2.2.2.2.2.2.2.2.2.2.2.2.2.2.2.2.2.2.2.2.2.2.2.2.2.2.2.2.2.2.2.2.2.2.1
noncomputable def c_us : List Value := cc.2.2.2.2.2.2.2.2.2.2.2.2.2.2.2.2.2.2.2.2.2.2.2.2.2.2.2.2.2.2.2.2.2.2.2.2.2.2.2.2.2.2.2.2.2.2.2.2.2.2.2.2.2.2.2.2.2.2.2.2.2.2.2.2.2.2.2.2.2.2.2.2.2.2.2.2.2.2.2.2.2.2.2.2.2.2.2.2.2.2.2.2.2.2.2.2.2.2.2.1
noncomputable def c_q_ : Int := cc.2.2.2.2.2.2.2.2.2.2.2.2.2.2.2.2.2.2.2.2.2.2.2.2.2.2.2.2.2.2.2.2.2.2.2.2.2.2.2.2.2.2.2.2.2.2.2.2.2.2.2.2.2.2.2.2.2.2.2.2.2.2.2.2.2.2.2.2.2.2.2.2.2.2.2.2.2.2.2.2.2.2.2.2.2.2.2.2.2.2.2.2.2.2.2.2.2.2.2.2.1
noncomputable def c_r0 : Int := cc.2.2.2.2.2.2.2.2.2.2.2.2.2.2.2.2.2.2.2.2.2.2.2.2.2.2.2.2.2.2.2.2.2.2.2.2.2.2.2.2.2.2.2.2.2.2.2.2.2.2.2.2.2.2.2.2.2.2.2.2.2.2.2.2.2.2.2.2.2.2.2.2.2.2.2.2.2.2.2.2.2.2.2.2.2.2.2.2.2.2.2.2.2.2.2.2.2.2.2.2.2.1
noncomputable def c_us0 : List Value := cc.2.2.2.2.2.2.2.2.2.2.2.2.2.2.2.2.2.2.2.2.2.2.2.2.2.2.2.2.2.2.2.2.2.2.2.2.2.2.2.2.2.2.2.2.2.2.2.2.2.2.2.2.2.2.2.2.2.2.2.2.2.2.2.2.2.2.2.2.2.2.2.2.2.2.2.2.2.2.2.2.2.2.2.2.2.2.2.2.2.2.2.2.2.2.2.2.2.2.2.2.2.2.1
noncomputable def c_xs : List Int := cc.2.2.2.2.2.2.2.2.2.2.2.2.2.2.2.2.2.2.2.2.2.2.2.2.2.2.2.2.2.2.2.2.2.2.2.2.2.2.2.2.2.2.2.2.2.2.2.2.2.2.2.2.2.2.2.2.2.2.2.2.2.2.2.2.2.2.2.2.2.2.2.2.2.2.2.2.2.2.2.2.2.2.2.2.2.2.2.2.2.2.2.2.2.2.2.2.2.2.2.2.2.2.2.1
noncomputable def c_tz : Tok := cc.2.2.2.2.2.2.2.2.2.2.2.2.2.2.2.2.2.2.2.2.2.2.2.2.2.2.2.2.2.2.2.2.2.2.2.2.2.2.2.2.2.2.2.2.2.2.2.2.2.2.2.2.2.2.2.2.2.2.2.2.2.2.2.2.2.2.2.2.2.2.2.2.2.2.2.2.2.2.2.2.2.2.2.2.2.2.2.2.2.2.2.2.2.2.2.2.2.2.2.2.2.2.2.2.1
noncomputable def c_top : Int := cc.2.2.2.2.2.2.2.2.2.2.2.2.2.2.2.2.2.2.2.2.2.2.2.2.2.2.2.2.2.2.2.2.2.2.2.2.2.2.2.2.2.2.2.2.2.2.2.2.2.2.2.2.2.2.2.2.2.2.2.2.2.2.2.2.2.2.2.2.2.2.2.2.2.2.2.2.2.2.2.2.2.2.2.2.2.2.2.2.2.2.2.2.2.2.2.2.2.2.2.2.2.2.2.2.2.1
noncomputable def c_tt : Tok := cc.2.2.2.2.2.2.2.2.2.2.2.2.2.2.2.2.2.2.2.2.2.2.2.2.2.2.2.2.2.2.2.2.2.2.2.2.2.2.2.2.2.2.2.2.2.2.2.2.2.2.2.2.2.2.2.2.2.2.2.2.2.2.2.2.2.2.2.2.2.2.2.2.2.2.2.2.2.2.2.2.2.2.2.2.2.2.2.2.2.2.2.2.2.2.2.2.2.2.2.2.2.2.2.2.2.2.1
noncomputable def c_t : Addr := cc.2.2.2.2.2.2.2.2.2.2.2.2.2.2.2.2.2.2.2.2.2.2.2.2.2.2.2.2.2.2.2.2.2.2.2.2.2.2.2.2.2.2.2.2.2.2.2.2.2.2.2.2.2.2.2.2.2.2.2.2.2.2.2.2.2.2.2.2.2.2.2.2.2.2.2.2.2.2.2.2.2.2.2.2.2.2.2.2.2.2.2.2.2.2.2.2.2.2.2.2.2.2.2.2.2.2.2.1
noncomputable def c_n2 : Nat := cc.2.2.2.2.2.2.2.2.2.2.2.2.2.2.2.2.2.2.2.2.2.2.2.2.2.2.2.2.2.2.2.2.2.2.2.2.2.2.2.2.2.2.2.2.2.2.2.2.2.2.2.2.2.2.2.2.2.2.2.2.2.2.2.2.2.2.2.2.2.2.2.2.2.2.2.2.2.2.2.2.2.2.2.2.2.2.2.2.2.2.2.2.2.2.2.2.2.2.2.2.2.2.2.2.2.2.2.2
theorem e_0 : cc = k_0 := rfl
end Mine
end
section
open PySem PySem.W PySem.Calls PyProof.Rows PySem.Spec
namespace Mine
theorem fillAll : (PySem.Challenge.rw_on0010_01.foot = 12) ∧ (∀ P, (heapK P).length = (heapK P).length) := by
  k_fill
  exact ⟨rfl, fun _ => rfl⟩
local macro_rules | `(tactic| k_all) => mtRun [("k_all", "F4 F2 S3 R @2 afr_tail ?h ?s C h H Kassumption C s WMINE~sub0 X F2 S6 R @5 aTupTail.ne ?x ?N ?s ?m ?c C x H Kassumption C N Kk_asm C s WMINE~sub0 C m Kk_mem C c F4 E ant_list E ant_dict E ant_ref S2 I1 h c vh X F4 H Kassumption S3 R @2 alt_tail ?h ?s C h H Kassumption C s WMINE~sub0 S4 R @3 alt_tail2 ?h ?l ?s C l H Kassumption C h H Kassumption C s WMINE~sub0 X X")] "k_all"
local macro_rules | `(tactic| ked_read) => mtRun [("ked_read", "F4 F2 S7 R @6 areads_K ?X ?F ?l ?c ?d ?r C F Kk_asm C X Kk_asm C l Kk_is C c E arfl C d E arfl C r Kked_reads X Kassumption F2 S4 R @3 aLRead.here ?x ?N ?s C x H Kassumption C N Kk_asm C s WMINE~sub0 X X")] "ked_read"
local macro_rules | `(tactic| k_ne) => mtRun [("k_ne", "F4 F6 H Kassumption E @1 aNe.symm ( y H Kassumption S3 R @2 ane_bef ?h ?b C h H Kassumption C b WMINE~bef S3 R @1 aNe.symm ( @2 ane_bef ?h ?b C h H Kassumption C b WMINE~bef E @4 anews_ne ( y Kk_asm ( y Kk_mem ( y Kk_mem ( y E arfl X F5 S3 R @2 ane_lt0 ?h ?m C h H Kassumption C m Kk_mem S3 R @1 aNe.symm ( @2 ane_lt0 ?h ?m C h H Kassumption C m Kk_mem S5 R @1 ane_ofLt ?g P R @1 ane_ltS ?_ R @2 alt_mem ?h ?m C h H Kassumption C m Kk_mem S5 R @1 aNe.symm ( @1 ane_ofLt ?g P R @1 ane_ltS ?_ R @2 alt_mem ?h ?m C h H Kassumption C m Kk_mem X F3 S3 R @2 afr_one ?h ?m C h H Kassumption C m Kk_mem S3 R @1 aNe.symm ( @2 afr_one ?h ?m C h H Kassumption C m Kk_mem X X")] "k_ne"
local macro_rules | `(tactic| k_room) => mtRun [("k_room", "Kktr_room")] "k_room"
local macro_rules | `(tactic| k_units) => mtRun [("k_units", "Kktr_units")] "k_units"
local macro_rules | `(tactic| ke_room) => mtRun [("ke_room", "Kktr_units")] "ke_room"
local macro_rules | `(tactic| ked_reads) => mtRun [("ked_reads", "F2 S4 R @3 aLReads.here ?x ?N ?s C x H Kassumption C N Kk_asm C s WMINE~sub0 X")] "ked_reads"
local macro_rules | `(tactic| size_fits) => mtRun [("size_fits", "E @1 amy_fits ( y H Kassumption")] "size_fits"
local macro_rules | `(tactic| walk_at $k:str) => mtRun [
  ("MINE sub0", "S2 I2 p hp F2 E @2 aabsurd vhp aList.not_mem_nil P F3 E vhp E @2 asub_tail ( y H Kassumption vhp r @2 aList.Mem.tail _ ?_"),
  ("getMethod dict", "S2 Kk_here D S5 R @4 atab_method ?N ?m ?x ?_ C N Kk_asm C m Kk_mem C x H Kassumption Kk_whole"),
  ("getMethod ref", "S2 Kk_here D S5 R @4 atab_method ?N ?m ?x ?_ C N Kk_asm C m Kk_mem C x H Kassumption Kk_whole"),
  ("call builtin:dict.get", "S2 Kk_here D S10 R @8 atab_get ?N ?m ?x ?q ?l ?u ?k ?_ C N Kk_asm C m Kk_mem C x H Kassumption C q WMINE~sub0 C l H Kassumption C u Kktr_units C k Kked_read Kk_whole I2 t' tk'"),
  ("setItem ref ref", "S2 Kk_here D S13 R @9 atab_set ?F ?N ?U ?x ?q ?u ?n ?k ?_ C F Kk_asm C N Kk_asm C U Kk_updF C x H Kassumption C q WMINE~sub0 C u Kktr_units C n H Kassumption C k H Kassumption Kk_whole I6 h' o' tk' F' N' TO' T d0 1 N' T Kk_sweep"),
  ("compareOp Eq ref ref", "F3 S2 Kk_here D F3 S8 R @8 aeq_lit atrue ?ea ?eb ?ec ?ed ?eh ?ee ?_ C ea Kked_read C eb Kked_read C ec KdecideK C ed KdecideK C eh KdecideK C ee Kktr_units Kk_whole S8 R @8 aeq_lit afalse ?ea ?eb ?ec ?ed ?eh ?ee ?_ C ea Kked_read C eb Kked_read C ec KdecideK C ed KdecideK C eh KdecideK C ee Kktr_units Kk_whole X S2 Kk_here D F2 S6 R @6 aeq_enc aenc1I ?a ?b ?c ?u ?_ C a Kked_read C b Kked_read C c Kk_asm C u Kktr_units Kk_whole X X"),
  ("call builtin:list.remove", "F3 S4 Kk_here D F2 S10 R @9 aremove_int ?F ?N ?r ?q ?c ?U ?z ?u ?_ C F Kk_asm C N Kk_asm C c Kk_asm C r Kk_asm C q WMINE~sub0 C U Kk_upd C z Kk_asm C u Kktr_units Kk_whole X I3 h' F' N' T Kk_sweep S4 Kk_here D F3 S11 R @11 aremove_row aenc1I ?F ?N ?r ?q ?x ?p ?U ?z ?u ?_ C F Kk_asm C N Kk_asm C x Kk_asm C r Kk_asm C q WMINE~sub0 C p Kk_asm C U Kk_upd C z Kk_asm C u Kktr_units Kk_whole S11 R @11 aremove_held aenc1I ?F ?N ?r ?q ?x ?c ?U ?z ?u ?_ C F Kk_asm C N Kk_asm C c Kk_asm C r Kk_asm C q WMINE~sub0 C x Kked_read C U Kk_upd C z Kk_asm C u Kktr_units Kk_whole X I3 h' F' N' T Kk_sweep X"),
  ("MINE drop", "F3 E @1 aDrop.hit ( y Kk_all S3 R @2 aDrop.keep ?a ?b C a Kk_ne C b WMINE~drop X"),
  ("MINE sub", "F3 S3 I2 p hp F2 E @2 aabsurd vhp aList.not_mem_nil P F3 E vhp E @2 asub_tail ( y H Kassumption vhp r @2 aList.Mem.tail _ ?_ Kdone S3 R @1 aList.forall_mem_cons.mpr <2 ?a ?b C a Kk_mem C b WMINE~sub X"),
  ("leaving ref", "S2 Kk_here D F3 S9 R @6 aleave_onE ?K ?F ?R ?U ?f ?_ C R Kassumption C F Kassumption C K Kassumption C U Kassumption C f E arfl Kk_whole I3 h' R' U' T d0 2 R' U' S11 R @8 aleave_firstE ?K ?F ?N ?m ?d ?f ?k ?_ C K Kassumption C F Kk_asm C N Kk_asm C m Kk_mem C d WMINE~drop C f E arfl C k E arfl Kk_whole I3 h' R' U' T d0 2 R' U' X"),
  ("call builtin:list.pop", "S4 Kk_here D F2 S6 R @5 apop0_T ?F ?N ?U ?z ?_ C F Kk_asm C N Kk_asm C U Kk_upd C z Kk_asm Kk_whole X I3 h' F' N' T Kk_sweep"),
  ("compareOp In int ref", "S2 Kk_here D F2 S8 R @7 ain_ints ?N ?m ?r ?q ?b ?u ?_ C N Kk_asm C m Kk_mem C r Kk_asm C q WMINE~sub0 C b Kk_asm C u Kktr_units Kk_whole X"),
  ("compareOp NotIn int ref", "S3 Kk_here D F2 S8 R @7 anotIn_ints ?N ?m ?r ?q ?b ?u ?_ C N Kk_asm C m Kk_mem C r Kk_asm C q WMINE~sub0 C b Kk_asm C u Kktr_units Kk_whole X T d2 Bool.not_true Bool.not_false 0"),
  ("eval ListComp", "S3 Kk_here Klct_look D r @7 aLCt.ListComp_T = F₀ y Kk_asm ( y U Krfl ( y Kdecide ( y Krfl ( y Kdecide ( y Krfl ?_"),
  ("exec Assign cons ListComp", "S3 Kk_here Klct_look D r @11 aLCt.Assign_ListComp_T = F₀ y Kk_asm ( y Krfl ( y U Krfl ( y U Krfl ( y Kdecide ( y Krfl ( y Kdecide ( y Krfl ( y Krfl ( y Krfl ?_"),
  ("compareOp NotEq ref ref", "S3 Kk_here D F2 S6 R @6 ane_enc aenc1I ?a ?b ?c ?u ?_ C a Kked_read C b Kked_read C c Kk_asm C u Kktr_units Kk_whole X T d2 Bool.not_true Bool.not_false 0"),
  ("MINE take", "F3 S2 R @1 aTake.hit ?a C a Kk_all S3 R @2 aTake.keep ?a ?b C a Kk_ne C b WMINE~take X"),
  ("MINE bef", "F3 S2 R @1 aBef.hd ?a C a Kk_mem S2 R @1 aBef.tl ?a C a WMINE~bef X"),
  ("compareOp NotIn ref ref", "S4 Kk_here H O @6 awpAny _ _ ( @3 acompareOp aCmpOp.NotIn ( @1 aValue.ref _ ( @1 aValue.ref _ _ _ _ D S9 R @8 anotIn_enc ?I ?N ?m ?rs ?rx ?hb ?u ?_ C I E aenc1I C N Kk_asm C m Kk_mem C rs Kked_reads C rx Kked_read C hb Kk_asm C u Kktr_units Kk_whole T d2 Bool.not_true Bool.not_false 0"),
  ("compareOp In ref ref", "S3 Kk_here H O @6 awpAny _ _ ( @3 acompareOp aCmpOp.In ( @1 aValue.ref _ ( @1 aValue.ref _ _ _ _ D S9 R @8 ain_enc ?I ?N ?m ?rs ?rx ?hb ?u ?_ C I E aenc1I C N Kk_asm C m Kk_mem C rs Kked_reads C rx Kked_read C hb Kk_asm C u Kktr_units Kk_whole"),
  ("MINE enter", "S2 r @1 awpAny_call ?_ D F3 S22 R @18 acode_def ?k1 ?k2 ?k3 ?k4 ?k5 ?kA ?kF ?kK ?k6 ?k7 ?k8 ?k9 ?kB ?_ ?c2 ?c3 ?c4 ?c5 C kA E arfl C kF E arfl C kK H Kassumption C k1 Kk_asm C k2 Kk_asm C k3 Kk_asm C k4 Kk_asm C k5 Kk_asm C k6 Kk_is C k7 Kk_is C k8 Kk_room C k9 E @1 aBindsTo.of_eq arfl C c5 Kdecide C kB E @1 alocs arfl C c2 E arfl C c3 E arfl C c4 E arfl Kk_whole I9 g' L' h' FG' F' N' B' X' T' T d0 0 T Kk_fold S25 R @18 acode_defC ?k1 ?k2 ?k3 ?k4 ?k5 ?kA ?kF ?kK ?k6 ?k7 ?k8 ?k9 ?kB ?kD ?_ ?c2 ?c3 ?c4 C kA E arfl C kF E arfl C kK H Kassumption C k1 Kk_asm C k2 Kk_asm C k3 Kk_asm C k4 Kk_asm C k5 Kk_asm C k6 Kk_is C k7 Kk_is C k8 Kk_room C k9 E @1 aBindsTo.of_eq arfl C kB E arfl C kD KdecideK C c2 E arfl C c3 E arfl C c4 E arfl Kk_whole I13 g' L' h' tk' cells' FG' F' N' Y' B' X' T' l1 T Lk_lt l1 Lk_cells Y' T s2 List.cons_append List.nil_append 1 N' T d0 0 T Kk_fold X"),
  ("getMethod str", "S2 Kk_here H r @1 aencode_method ?_"),
  ("call builtin:str.encode", "S2 Kk_here D F2 r @1 aencode_callU ?_ r @1 aencode_callN ?_"),
  ("call ref", "S2 Kk_here D S17 R @11 acall_excK ?F ?N ?X ?l ?b ?a ?n ?i ?f ?z ?_ C F Kk_asm C N Kk_asm C X Kk_asm C l Kk_is C b Kdecide C a Kdecide C n Kdecide C i Kk_is C f Kk_is C z E @1 aNat.le_of_ble_eq_true arfl Kk_whole I7 e' t' h' F' N' l1 l2 T Lk_lt l1 T Lk_lt2 l2 T Kk_sweep Kk_enter"),
  ("getMethod type:Exception", "S6 Kk_here R @7 amethod_type ?F ?X ameta_Exception ( y KdecideK ?e ?h ?_ C F Kk_asm C X Kk_asm C e D Kk_is C h Kk_handed"),
  ("call builtin:Exception.__init__", "S6 Kk_here D S7 R @7 aexc_initK ?F ?N ?X ?l ?b ?U ?_ C F Kk_asm C N Kk_asm C X Kk_asm C U Kk_updF C l Kk_is C b Kdecide I5 t' h' F' N' l1 T d0 1 N' T Lk_lt l1 T Kk_sweep"),
  ("setAttr ref", "F3 S6 Kk_here D S10 R @9 asetE_new ?F ?X ?N ?U ?s ( @2 aexcOver_of ?c ?p ?t ?hh ?_ C F Kk_asm C X Kk_asm C N Kk_asm C U Kk_updF C s Kk_is C c Kk_is C p Krfl C t Kk_is C hh Kk_is I5 d' h' F' N' l1 T d0 1 N' T Lk_lt l1 T Kk_sweep S2 Kk_here D S19 R @13 asetE_dict ?F ?X ?N ( @3 ainstE ?N2 ?h1 ?h2 ?s ( @2 aexcOver_of ?c ?p ?t ?hh ?l ?e ?U ?z ?_ C F Kk_asm C X Kk_asm C N Kk_asm C N2 Kk_asm C h1 Kk_mem C h2 Kk_mem C s Kk_is C c Kk_is C p Krfl C t Kk_is C hh Kk_is C l Kk_get C e Kk_put C U Kk_upd C z E @1 aNat.le_of_ble_eq_true arfl Kk_whole I3 h' F' N' T Kk_sweep X"),
  ("exec Raise some none", "S2 Kk_here D r @2 aRaise_own ( y E arfl ?_"),
  ("RaisableE", "S2 Kk_here D S8 R @7 araisableE ?F ?X ?N ?m ?l ?b ?_ C F Kk_asm C X Kk_asm C N Kk_asm C m Kk_mem C l Kk_is C b Kdecide Kk_whole")] k.getString
local macro_rules | `(tactic| k_lt $h:ident) => `(tactic| (have tlF := $h; replace $h := allLt_of $h; simp only [AllLt, and_true] at $h:ident))
local macro_rules | `(tactic| k_ne) => mtRun [("k_ne", "F7 H Kassumption E @1 aNe.symm ( y H Kassumption S3 R @2 ane_lt0 ?h ?m C h H Kassumption C m Kk_mem S3 R @1 aNe.symm ( @2 ane_lt0 ?h ?m C h H Kassumption C m Kk_mem S3 R @2 afr_one ?h ?m C h H Kassumption C m Kk_mem S3 R @1 aNe.symm ( @2 afr_one ?h ?m C h H Kassumption C m Kk_mem X")] "k_ne"
local macro_rules | `(tactic| walk_at $k:str) => mtRun [
  ("MINE enterT", "S2 r @1 awpAny_call ?_ D F3 S22 R @18 aenterT ?k1 ?k2 ?k3 ?k4 ?k5 ?kA ?kF ?kK ?k6 ?k7 ?k8 ?k9 ?kB ?_ ?c2 ?c3 ?c4 ?c5 C kA E arfl C kF E arfl C kK F2 E arfl Kassumption C k1 Kk_asm C k2 Kk_asm C k3 Kk_asm C k4 Kk_asm C k5 Kk_asm C k6 Kk_is C k7 Kk_is C k8 Kk_room C k9 E @1 aBindsTo.of_eq arfl C c5 Kdecide C kB E @1 alocs arfl C c2 E arfl C c3 E arfl C c4 E arfl Kk_whole I9 g' L' h' FG' F' N' B' X' T' T d0 0 T Kk_fold S25 R @18 aenterTC ?k1 ?k2 ?k3 ?k4 ?k5 ?kA ?kF ?kK ?k6 ?k7 ?k8 ?k9 ?kB ?kD ?_ ?c2 ?c3 ?c4 C kA E arfl C kF E arfl C kK F2 E arfl Kassumption C k1 Kk_asm C k2 Kk_asm C k3 Kk_asm C k4 Kk_asm C k5 Kk_asm C k6 Kk_is C k7 Kk_is C k8 Kk_room C k9 E @1 aBindsTo.of_eq arfl C kB E arfl C kD KdecideK C c2 E arfl C c3 E arfl C c4 E arfl Kk_whole I13 g' L' h' tk' cells' FG' F' N' Y' B' X' T' l1 T Lk_lt l1 Lk_cells Y' T s2 List.cons_append List.nil_append 1 N' T d0 0 T Kk_fold X"),
  ("subscriptTail", "F3 S4 Kk_here H O @6 awpAny _ _ ( @4 asubscriptTail _ _ ( @1 aValue.ref _ ( @2 aValue.str _ _ _ _ _ D S4 R @3 aitem_strTab ?k1 ?k2 ?_ C k1 Kk_tabat C k2 F2 H Kassumption Krfl Kk_whole I2 _ _ S3 Kk_here H O @6 awpAny _ _ ( @4 asubscriptTail _ _ ( @1 aValue.ref _ ( @2 aValue.int _ _ _ _ _ D S8 R @7 aitem_at ?N ?m ?a ?b ?c ?_ ?d C N Kk_asm C m Kk_mem C a Kk_asm C b Kk_asm C c Kk_asm C d U Krfl Kk_whole X"),
  ("getMethod ref", "F5 S3 Kk_here H O @6 awpAny _ _ ( @3 agetMethod ( @1 aValue.ref _ ( @1 aPySem.Str.ofString $append _ _ _ _ D S3 R @5 alistMethod_K ?N ?m aPySem.F.slot_list_append aPySem.F.type_list_append ?_ C N H Kassumption C m Kk_mem S3 Kk_here H O @6 awpAny _ _ ( @3 agetMethod ( @1 aValue.ref _ ( @1 aPySem.Str.ofString $pop _ _ _ _ D S3 R @5 akl_method ?N ?m aPySem.F.slot_list_pop aPySem.F.type_list_pop ?_ C N H Kassumption C m Kk_mem S3 Kk_here H O @6 awpAny _ _ ( @3 agetMethod ( @1 aValue.ref _ ( @1 aPySem.Str.ofString $remove _ _ _ _ D S3 R @5 akf_method ?N ?m aPySem.F.slot_list_remove aPySem.F.type_list_remove ?_ C N H Kassumption C m Kk_mem S2 Kk_here D S9 R @8 amethod_inst ?k1 ?k2 ?k3 ?k4 ?k5 ?k6 ?k7 ?_ C k1 H Kassumption C k2 H Kassumption C k3 Kk_inst C k4 Kk_is C k5 Kk_is C k6 Kk_is C k7 Kk_get Kk_whole X")] k.getString
-- PC1
section
theorem P_lock_free_c : P_lock_free_S c_prog c_w c_p c_loose c_mean c_mg c_mb c_dp c_un c_gd c_cn c_cs c_a c_ccd c_cl c_outer c_A₀ c_base c_h₀ c_L c_m c_s c_Q c_E c_tl c_pg c_pd c_hl c_dc c_wl c_pl c_tg c_t4 c_t5 c_t6 c_nt c_n1 c_n3 c_cnt c_hs c_ws c_held c_rows c_g c_k c_oc c_TT := by
  refine' (?g : ∀ prog w p loose mean mg mb dp un gd cn cs a ccd cl outer A₀ base h₀ L m s Q E tl pg pd hl dc wl pl tg t4 t5 t6 nt n1 n3 cnt hs ws held rows g k oc TT, P_lock_free_S prog w p loose mean mg mb dp un gd cn cs a ccd cl outer A₀ base h₀ L m s Q E tl pg pd hl dc wl pl tg t4 t5 t6 nt n1 n3 cnt hs ws held rows g k oc TT) c_prog c_w c_p c_loose c_mean c_mg c_mb c_dp c_un c_gd c_cn c_cs c_a c_ccd c_cl c_outer c_A₀ c_base c_h₀ c_L c_m c_s c_Q c_E c_tl c_pg c_pd c_hl c_dc c_wl c_pl c_tg c_t4 c_t5 c_t6 c_nt c_n1 c_n3 c_cnt c_hs c_ws c_held c_rows c_g c_k c_oc c_TT
  intros prog w p loose mean mg mb dp un gd cn cs a ccd cl outer A₀ base h₀ L m s Q E tl pg pd hl dc wl pl tg t4 t5 t6 nt n1 n3 cnt hs ws held rows g k oc TT
  intros B F X T hk N hpl hhs hws hoc hT lo hnd s1 s2 s3 s4 hlen hlen2 hnt hmem hdp hun ret
  simp only [List.nodup_cons, List.mem_cons, List.not_mem_nil, or_false, not_or, List.nodup_nil, and_true, not_false_eq_true] at hnd
  obtain ⟨⟨d1, d2, d3, d4⟩, ⟨d5, d6, d7⟩, ⟨d8, d9⟩, d10⟩ := hnd
  walk_at "MINE enter"
  k_steps
  all_goals ((with_reducible rename News h₀ L _ _ => kN9); (try simp only [List.push_toArray] at kN9))
  all_goals first | (refine' ret _ _ ?f (news_sub ?n ?s) (hhs.snoc hpl); (case f => k_asm); (case n => k_asm); (case s => walk_at "MINE sub"); (all_goals first | k_asm | k_all | k_ne)) | (exfalso; omega)
theorem P_lock_free_a : ∀ x, P_lock_free_P x := pk_all e_0 P_lock_free_c
theorem e_1 : cc = k_1 := pk_next e_0 P_lock_free_a
theorem P_lock_free {prog w p loose mean mg mb dp un gd cn cs a ccd cl outer A₀ base h₀ L m s Q E tl pg pd hl dc wl pl tg t4 t5 t6 nt n1 n3 cnt hs ws held rows g k oc TT} : P_lock_free_S prog w p loose mean mg mb dp un gd cn cs a ccd cl outer A₀ base h₀ L m s Q E tl pg pd hl dc wl pl tg t4 t5 t6 nt n1 n3 cnt hs ws held rows g k oc TT :=
  P_lock_free_a (prog, w, p, loose, mean, mg, mb, dp, un, gd, cn, cs, a, ccd, cl, outer, A₀, base, h₀, L, m, s, Q, E, tl, tg, c_t1, c_t2, g, k, wl, c_many, pg, c_sd, c_ta, c_t3, c_osd, c_tm, c_tw, t4, t5, c_al, c_gl, c_n, c_vs, c_x, c_xd, c_q, pd, hl, dc, t6, nt, n1, n3, cnt, hs, ws, held, rows, oc, TT, c_z, c_fr, c_st, c_word, pl, cc.2.2.2.2.2.2.2.2.2.2.2.2.2.2.2.2.2.2.2.2.2.2.2.2.2.2.2.2.2.2.2.2.2.2.2.2.2.2.2.2.2.2.2.2.2.2.2.2.2.2.2.2.2.2.2.2.2.2.2.2.2.2.2.2.2.2.2)
theorem P_lock_held_c : P_lock_held_S c_prog c_w c_p c_loose c_mean c_mg c_mb c_dp c_un c_gd c_cn c_cs c_a c_ccd c_cl c_outer c_A₀ c_base c_h₀ c_L c_m c_s c_Q c_E c_tl c_pg c_pd c_hl c_dc c_wl c_pl c_tg c_t4 c_t5 c_t6 c_nt c_n1 c_n3 c_cnt c_hs c_ws c_held c_rows c_g c_k c_oc c_TT := by
  refine' (?g : ∀ prog w p loose mean mg mb dp un gd cn cs a ccd cl outer A₀ base h₀ L m s Q E tl pg pd hl dc wl pl tg t4 t5 t6 nt n1 n3 cnt hs ws held rows g k oc TT, P_lock_held_S prog w p loose mean mg mb dp un gd cn cs a ccd cl outer A₀ base h₀ L m s Q E tl pg pd hl dc wl pl tg t4 t5 t6 nt n1 n3 cnt hs ws held rows g k oc TT) c_prog c_w c_p c_loose c_mean c_mg c_mb c_dp c_un c_gd c_cn c_cs c_a c_ccd c_cl c_outer c_A₀ c_base c_h₀ c_L c_m c_s c_Q c_E c_tl c_pg c_pd c_hl c_dc c_wl c_pl c_tg c_t4 c_t5 c_t6 c_nt c_n1 c_n3 c_cnt c_hs c_ws c_held c_rows c_g c_k c_oc c_TT
  intros prog w p loose mean mg mb dp un gd cn cs a ccd cl outer A₀ base h₀ L m s Q E tl pg pd hl dc wl pl tg t4 t5 t6 nt n1 n3 cnt hs ws held rows g k oc TT
  intros B F X T hk N hpl hhs hws hoc hT lo hnd s1 s2 s3 s4 hlen hlen2 hnt hmem hdp hun ret
  simp only [List.nodup_cons, List.mem_cons, List.not_mem_nil, or_false, not_or, List.nodup_nil, and_true, not_false_eq_true] at hnd
  obtain ⟨⟨d1, d2, d3, d4⟩, ⟨d5, d6, d7⟩, ⟨d8, d9⟩, d10⟩ := hnd
  walk_at "MINE enter"
  k_steps
  all_goals ((with_reducible rename News h₀ L _ _ => kN9); (try simp only [List.push_toArray] at kN9))
  all_goals first | (refine' ret _ _ _ ?f (news_sub ?n ?s) ?_ ((hws.more fun p hp => .tail _ hp).snoc ⟨_, _, _, _, rfl, .head _, hpl.more fun p hp => .tail _ hp⟩); (case f => k_asm); (case n => k_asm); (case s => walk_at "MINE sub"); (all_goals first | k_asm | k_all | k_ne)) | (exfalso; omega)
theorem P_lock_held_a : ∀ x, P_lock_held_P x := pk_all e_1 P_lock_held_c
theorem e_2 : cc = k_2 := pk_next e_1 P_lock_held_a
theorem P_lock_held {prog w p loose mean mg mb dp un gd cn cs a ccd cl outer A₀ base h₀ L m s Q E tl pg pd hl dc wl pl tg t4 t5 t6 nt n1 n3 cnt hs ws held rows g k oc TT} : P_lock_held_S prog w p loose mean mg mb dp un gd cn cs a ccd cl outer A₀ base h₀ L m s Q E tl pg pd hl dc wl pl tg t4 t5 t6 nt n1 n3 cnt hs ws held rows g k oc TT :=
  P_lock_held_a (prog, w, p, loose, mean, mg, mb, dp, un, gd, cn, cs, a, ccd, cl, outer, A₀, base, h₀, L, m, s, Q, E, tl, tg, c_t1, c_t2, g, k, wl, c_many, pg, c_sd, c_ta, c_t3, c_osd, c_tm, c_tw, t4, t5, c_al, c_gl, c_n, c_vs, c_x, c_xd, c_q, pd, hl, dc, t6, nt, n1, n3, cnt, hs, ws, held, rows, oc, TT, c_z, c_fr, c_st, c_word, pl, cc.2.2.2.2.2.2.2.2.2.2.2.2.2.2.2.2.2.2.2.2.2.2.2.2.2.2.2.2.2.2.2.2.2.2.2.2.2.2.2.2.2.2.2.2.2.2.2.2.2.2.2.2.2.2.2.2.2.2.2.2.2.2.2.2.2.2.2)
theorem P_wait_zero_c : P_wait_zero_S c_prog c_w c_p c_loose c_mean c_mg c_mb c_dp c_un c_gd c_cn c_cs c_a c_ccd c_cl c_outer c_A₀ c_base c_h₀ c_L c_m c_s c_Q c_E c_tl c_pg c_pd c_hl c_dc c_wl c_pl c_tg c_t4 c_t5 c_t6 c_nt c_n1 c_n3 c_cnt c_hs c_ws c_held c_rows c_g c_k c_oc c_TT := by
  refine' (?g : ∀ prog w p loose mean mg mb dp un gd cn cs a ccd cl outer A₀ base h₀ L m s Q E tl pg pd hl dc wl pl tg t4 t5 t6 nt n1 n3 cnt hs ws held rows g k oc TT, P_wait_zero_S prog w p loose mean mg mb dp un gd cn cs a ccd cl outer A₀ base h₀ L m s Q E tl pg pd hl dc wl pl tg t4 t5 t6 nt n1 n3 cnt hs ws held rows g k oc TT) c_prog c_w c_p c_loose c_mean c_mg c_mb c_dp c_un c_gd c_cn c_cs c_a c_ccd c_cl c_outer c_A₀ c_base c_h₀ c_L c_m c_s c_Q c_E c_tl c_pg c_pd c_hl c_dc c_wl c_pl c_tg c_t4 c_t5 c_t6 c_nt c_n1 c_n3 c_cnt c_hs c_ws c_held c_rows c_g c_k c_oc c_TT
  intros prog w p loose mean mg mb dp un gd cn cs a ccd cl outer A₀ base h₀ L m s Q E tl pg pd hl dc wl pl tg t4 t5 t6 nt n1 n3 cnt hs ws held rows g k oc TT
  intros B F X T hk N hpl hhs hws hoc hT lo hnd s1 s2 s3 s4 hlen hlen2 hnt hz hdp hun ret
  simp only [List.nodup_cons, List.mem_cons, List.not_mem_nil, or_false, not_or, List.nodup_nil, and_true, not_false_eq_true] at hnd
  obtain ⟨⟨d1, d2, d3, d4⟩, ⟨d5, d6, d7⟩, ⟨d8, d9⟩, d10⟩ := hnd
  walk_at "MINE enter"
  k_steps
  all_goals ((with_reducible rename News h₀ L _ _ => kN9); (try simp only [List.push_toArray] at kN9))
  all_goals first | (refine' ret _ _ ?f (news_sub ?n ?s); (case f => k_asm); (case n => k_asm); (case s => walk_at "MINE sub"); (all_goals first | k_asm | k_all | k_ne)) | (exfalso; omega)
theorem P_wait_zero_a : ∀ x, P_wait_zero_P x := pk_all e_2 P_wait_zero_c
theorem e_3 : cc = k_3 := pk_next e_2 P_wait_zero_a
theorem P_wait_zero {prog w p loose mean mg mb dp un gd cn cs a ccd cl outer A₀ base h₀ L m s Q E tl pg pd hl dc wl pl tg t4 t5 t6 nt n1 n3 cnt hs ws held rows g k oc TT} : P_wait_zero_S prog w p loose mean mg mb dp un gd cn cs a ccd cl outer A₀ base h₀ L m s Q E tl pg pd hl dc wl pl tg t4 t5 t6 nt n1 n3 cnt hs ws held rows g k oc TT :=
  P_wait_zero_a (prog, w, p, loose, mean, mg, mb, dp, un, gd, cn, cs, a, ccd, cl, outer, A₀, base, h₀, L, m, s, Q, E, tl, tg, c_t1, c_t2, g, k, wl, c_many, pg, c_sd, c_ta, c_t3, c_osd, c_tm, c_tw, t4, t5, c_al, c_gl, c_n, c_vs, c_x, c_xd, c_q, pd, hl, dc, t6, nt, n1, n3, cnt, hs, ws, held, rows, oc, TT, c_z, c_fr, c_st, c_word, pl, cc.2.2.2.2.2.2.2.2.2.2.2.2.2.2.2.2.2.2.2.2.2.2.2.2.2.2.2.2.2.2.2.2.2.2.2.2.2.2.2.2.2.2.2.2.2.2.2.2.2.2.2.2.2.2.2.2.2.2.2.2.2.2.2.2.2.2.2)
theorem P_wait_non_c : P_wait_non_S c_prog c_w c_p c_loose c_mean c_mg c_mb c_dp c_un c_gd c_cn c_cs c_a c_ccd c_cl c_outer c_A₀ c_base c_h₀ c_L c_m c_s c_Q c_E c_tl c_pg c_pd c_hl c_dc c_wl c_pl c_tg c_t4 c_t5 c_t6 c_nt c_n1 c_n3 c_cnt c_hs c_ws c_held c_rows c_g c_k c_oc c_TT := by
  refine' (?g : ∀ prog w p loose mean mg mb dp un gd cn cs a ccd cl outer A₀ base h₀ L m s Q E tl pg pd hl dc wl pl tg t4 t5 t6 nt n1 n3 cnt hs ws held rows g k oc TT, P_wait_non_S prog w p loose mean mg mb dp un gd cn cs a ccd cl outer A₀ base h₀ L m s Q E tl pg pd hl dc wl pl tg t4 t5 t6 nt n1 n3 cnt hs ws held rows g k oc TT) c_prog c_w c_p c_loose c_mean c_mg c_mb c_dp c_un c_gd c_cn c_cs c_a c_ccd c_cl c_outer c_A₀ c_base c_h₀ c_L c_m c_s c_Q c_E c_tl c_pg c_pd c_hl c_dc c_wl c_pl c_tg c_t4 c_t5 c_t6 c_nt c_n1 c_n3 c_cnt c_hs c_ws c_held c_rows c_g c_k c_oc c_TT
  intros prog w p loose mean mg mb dp un gd cn cs a ccd cl outer A₀ base h₀ L m s Q E tl pg pd hl dc wl pl tg t4 t5 t6 nt n1 n3 cnt hs ws held rows g k oc TT
  intros B F X T hk N hpl hhs hws hoc hT lo hnd s1 s2 s3 s4 hlen hlen2 hnt hz hdp hun ret
  simp only [List.nodup_cons, List.mem_cons, List.not_mem_nil, or_false, not_or, List.nodup_nil, and_true, not_false_eq_true] at hnd
  obtain ⟨⟨d1, d2, d3, d4⟩, ⟨d5, d6, d7⟩, ⟨d8, d9⟩, d10⟩ := hnd
  walk_at "MINE enter"
  k_steps
  all_goals ((with_reducible rename News h₀ L _ _ => kN9); (try simp only [List.push_toArray] at kN9))
  all_goals first | (refine' ret _ _ _ ?f (news_sub ?n ?s) ?_ ((hws.more fun p hp => .tail _ hp).snoc ⟨_, _, _, _, rfl, .head _, hpl.more fun p hp => .tail _ hp⟩); (case f => k_asm); (case n => k_asm); (case s => walk_at "MINE sub"); (all_goals first | k_asm | k_all | k_ne)) | (exfalso; omega)
theorem P_wait_non_a : ∀ x, P_wait_non_P x := pk_all e_3 P_wait_non_c
theorem e_4 : cc = k_4 := pk_next e_3 P_wait_non_a
theorem P_wait_non {prog w p loose mean mg mb dp un gd cn cs a ccd cl outer A₀ base h₀ L m s Q E tl pg pd hl dc wl pl tg t4 t5 t6 nt n1 n3 cnt hs ws held rows g k oc TT} : P_wait_non_S prog w p loose mean mg mb dp un gd cn cs a ccd cl outer A₀ base h₀ L m s Q E tl pg pd hl dc wl pl tg t4 t5 t6 nt n1 n3 cnt hs ws held rows g k oc TT :=
  P_wait_non_a (prog, w, p, loose, mean, mg, mb, dp, un, gd, cn, cs, a, ccd, cl, outer, A₀, base, h₀, L, m, s, Q, E, tl, tg, c_t1, c_t2, g, k, wl, c_many, pg, c_sd, c_ta, c_t3, c_osd, c_tm, c_tw, t4, t5, c_al, c_gl, c_n, c_vs, c_x, c_xd, c_q, pd, hl, dc, t6, nt, n1, n3, cnt, hs, ws, held, rows, oc, TT, c_z, c_fr, c_st, c_word, pl, cc.2.2.2.2.2.2.2.2.2.2.2.2.2.2.2.2.2.2.2.2.2.2.2.2.2.2.2.2.2.2.2.2.2.2.2.2.2.2.2.2.2.2.2.2.2.2.2.2.2.2.2.2.2.2.2.2.2.2.2.2.2.2.2.2.2.2.2)
theorem P_add_neg_c : P_add_neg_S c_prog c_w c_p c_loose c_mean c_mg c_mb c_dp c_un c_gd c_cn c_cs c_a c_ccd c_cl c_outer c_A₀ c_base c_h₀ c_L c_m c_s c_Q c_E c_tl c_pg c_pd c_hl c_dc c_wl c_pl c_tg c_t4 c_t5 c_t6 c_nt c_n1 c_n3 c_cnt c_hs c_ws c_held c_rows c_k c_oc c_TT c_many := by
  refine' (?g : ∀ prog w p loose mean mg mb dp un gd cn cs a ccd cl outer A₀ base h₀ L m s Q E tl pg pd hl dc wl pl tg t4 t5 t6 nt n1 n3 cnt hs ws held rows k oc TT many, P_add_neg_S prog w p loose mean mg mb dp un gd cn cs a ccd cl outer A₀ base h₀ L m s Q E tl pg pd hl dc wl pl tg t4 t5 t6 nt n1 n3 cnt hs ws held rows k oc TT many) c_prog c_w c_p c_loose c_mean c_mg c_mb c_dp c_un c_gd c_cn c_cs c_a c_ccd c_cl c_outer c_A₀ c_base c_h₀ c_L c_m c_s c_Q c_E c_tl c_pg c_pd c_hl c_dc c_wl c_pl c_tg c_t4 c_t5 c_t6 c_nt c_n1 c_n3 c_cnt c_hs c_ws c_held c_rows c_k c_oc c_TT c_many
  intros prog w p loose mean mg mb dp un gd cn cs a ccd cl outer A₀ base h₀ L m s Q E tl pg pd hl dc wl pl tg t4 t5 t6 nt n1 n3 cnt hs ws held rows k oc TT many
  intros B F X T hk N hpl hhs hws hoc hT lo hnd s1 s2 s3 s4 hlen hlen2 hnt hz hdp hun ret
  simp only [List.nodup_cons, List.mem_cons, List.not_mem_nil, or_false, not_or, List.nodup_nil, and_true, not_false_eq_true] at hnd
  obtain ⟨⟨d1, d2, d3, d4⟩, ⟨d5, d6, d7⟩, ⟨d8, d9⟩, d10⟩ := hnd
  walk_at "MINE enter"
  k_steps
  refine' ret _ _ _ _ _ _ _ _ _ _ _ _ _ ?fr (RaisedE.sub ?rr ?ss) ?uu
  case rr => assumption
  case uu => assumption
  case fr => k_asm
  case ss => walk_at "MINE sub"
theorem P_add_neg_a : ∀ x, P_add_neg_P x := pk_all e_4 P_add_neg_c
theorem e_5 : cc = k_5 := pk_next e_4 P_add_neg_a
theorem P_add_neg {prog w p loose mean mg mb dp un gd cn cs a ccd cl outer A₀ base h₀ L m s Q E tl pg pd hl dc wl pl tg t4 t5 t6 nt n1 n3 cnt hs ws held rows k oc TT many} : P_add_neg_S prog w p loose mean mg mb dp un gd cn cs a ccd cl outer A₀ base h₀ L m s Q E tl pg pd hl dc wl pl tg t4 t5 t6 nt n1 n3 cnt hs ws held rows k oc TT many :=
  P_add_neg_a (prog, w, p, loose, mean, mg, mb, dp, un, gd, cn, cs, a, ccd, cl, outer, A₀, base, h₀, L, m, s, Q, E, tl, tg, c_t1, c_t2, c_g, k, wl, many, pg, c_sd, c_ta, c_t3, c_osd, c_tm, c_tw, t4, t5, c_al, c_gl, c_n, c_vs, c_x, c_xd, c_q, pd, hl, dc, t6, nt, n1, n3, cnt, hs, ws, held, rows, oc, TT, c_z, c_fr, c_st, c_word, pl, cc.2.2.2.2.2.2.2.2.2.2.2.2.2.2.2.2.2.2.2.2.2.2.2.2.2.2.2.2.2.2.2.2.2.2.2.2.2.2.2.2.2.2.2.2.2.2.2.2.2.2.2.2.2.2.2.2.2.2.2.2.2.2.2.2.2.2.2)
theorem P_add_pos_c : P_add_pos_S c_prog c_w c_p c_loose c_mean c_mg c_mb c_dp c_un c_gd c_cn c_cs c_a c_ccd c_cl c_outer c_A₀ c_base c_h₀ c_L c_m c_s c_Q c_E c_tl c_pg c_pd c_hl c_dc c_wl c_pl c_tg c_t4 c_t5 c_t6 c_nt c_n1 c_n3 c_cnt c_hs c_ws c_held c_rows c_k c_oc c_TT c_many := by
  refine' (?g : ∀ prog w p loose mean mg mb dp un gd cn cs a ccd cl outer A₀ base h₀ L m s Q E tl pg pd hl dc wl pl tg t4 t5 t6 nt n1 n3 cnt hs ws held rows k oc TT many, P_add_pos_S prog w p loose mean mg mb dp un gd cn cs a ccd cl outer A₀ base h₀ L m s Q E tl pg pd hl dc wl pl tg t4 t5 t6 nt n1 n3 cnt hs ws held rows k oc TT many) c_prog c_w c_p c_loose c_mean c_mg c_mb c_dp c_un c_gd c_cn c_cs c_a c_ccd c_cl c_outer c_A₀ c_base c_h₀ c_L c_m c_s c_Q c_E c_tl c_pg c_pd c_hl c_dc c_wl c_pl c_tg c_t4 c_t5 c_t6 c_nt c_n1 c_n3 c_cnt c_hs c_ws c_held c_rows c_k c_oc c_TT c_many
  intros prog w p loose mean mg mb dp un gd cn cs a ccd cl outer A₀ base h₀ L m s Q E tl pg pd hl dc wl pl tg t4 t5 t6 nt n1 n3 cnt hs ws held rows k oc TT many
  intros B F X T hk N hpl hhs hws hoc hT lo hnd s1 s2 s3 s4 hlen hlen2 hnt hz hz2 hdp hun ret
  simp only [List.nodup_cons, List.mem_cons, List.not_mem_nil, or_false, not_or, List.nodup_nil, and_true, not_false_eq_true] at hnd
  obtain ⟨⟨d1, d2, d3, d4⟩, ⟨d5, d6, d7⟩, ⟨d8, d9⟩, d10⟩ := hnd
  walk_at "MINE enter"
  k_steps
  all_goals first | (refine' ret _ _ _ _ ?f (news_sub ?n ?s) ?_ ?_; (case f => k_asm); (case n => k_asm); (case s => walk_at "MINE sub"); (all_goals first | k_asm | k_all | k_ne)) | (exfalso; omega)
theorem P_add_pos_a : ∀ x, P_add_pos_P x := pk_all e_5 P_add_pos_c
theorem e_6 : cc = k_6 := pk_next e_5 P_add_pos_a
theorem P_add_pos {prog w p loose mean mg mb dp un gd cn cs a ccd cl outer A₀ base h₀ L m s Q E tl pg pd hl dc wl pl tg t4 t5 t6 nt n1 n3 cnt hs ws held rows k oc TT many} : P_add_pos_S prog w p loose mean mg mb dp un gd cn cs a ccd cl outer A₀ base h₀ L m s Q E tl pg pd hl dc wl pl tg t4 t5 t6 nt n1 n3 cnt hs ws held rows k oc TT many :=
  P_add_pos_a (prog, w, p, loose, mean, mg, mb, dp, un, gd, cn, cs, a, ccd, cl, outer, A₀, base, h₀, L, m, s, Q, E, tl, tg, c_t1, c_t2, c_g, k, wl, many, pg, c_sd, c_ta, c_t3, c_osd, c_tm, c_tw, t4, t5, c_al, c_gl, c_n, c_vs, c_x, c_xd, c_q, pd, hl, dc, t6, nt, n1, n3, cnt, hs, ws, held, rows, oc, TT, c_z, c_fr, c_st, c_word, pl, cc.2.2.2.2.2.2.2.2.2.2.2.2.2.2.2.2.2.2.2.2.2.2.2.2.2.2.2.2.2.2.2.2.2.2.2.2.2.2.2.2.2.2.2.2.2.2.2.2.2.2.2.2.2.2.2.2.2.2.2.2.2.2.2.2.2.2.2)
theorem P_add_zero_c : P_add_zero_S c_prog c_w c_p c_loose c_mean c_mg c_mb c_dp c_un c_gd c_cn c_cs c_a c_ccd c_cl c_outer c_A₀ c_base c_h₀ c_L c_m c_s c_Q c_E c_tl c_pg c_pd c_hl c_dc c_wl c_pl c_tg c_t4 c_t5 c_t6 c_nt c_n1 c_n3 c_cnt c_hs c_ws c_held c_rows c_k c_oc c_TT c_many := by
  refine' (?g : ∀ prog w p loose mean mg mb dp un gd cn cs a ccd cl outer A₀ base h₀ L m s Q E tl pg pd hl dc wl pl tg t4 t5 t6 nt n1 n3 cnt hs ws held rows k oc TT many, P_add_zero_S prog w p loose mean mg mb dp un gd cn cs a ccd cl outer A₀ base h₀ L m s Q E tl pg pd hl dc wl pl tg t4 t5 t6 nt n1 n3 cnt hs ws held rows k oc TT many) c_prog c_w c_p c_loose c_mean c_mg c_mb c_dp c_un c_gd c_cn c_cs c_a c_ccd c_cl c_outer c_A₀ c_base c_h₀ c_L c_m c_s c_Q c_E c_tl c_pg c_pd c_hl c_dc c_wl c_pl c_tg c_t4 c_t5 c_t6 c_nt c_n1 c_n3 c_cnt c_hs c_ws c_held c_rows c_k c_oc c_TT c_many
  intros prog w p loose mean mg mb dp un gd cn cs a ccd cl outer A₀ base h₀ L m s Q E tl pg pd hl dc wl pl tg t4 t5 t6 nt n1 n3 cnt hs ws held rows k oc TT many
  intros B F X T hk N hpl hhs hws hoc hT lo hnd s1 s2 s3 s4 hlen hlen2 hnt hz hz2 hdp hun ret
  simp only [List.nodup_cons, List.mem_cons, List.not_mem_nil, or_false, not_or, List.nodup_nil, and_true, not_false_eq_true] at hnd
  obtain ⟨⟨d1, d2, d3, d4⟩, ⟨d5, d6, d7⟩, ⟨d8, d9⟩, d10⟩ := hnd
  walk_at "MINE enter"
  k_steps
  k_dflt (refine LCt.CompSrcT.ledger (by rfl) (by k_asm) (by k_asm) (by k_mem) (my_fits hlen2) ?_)
  intro g9
  refine comp_rows (f := fun r => decide (r.1 = k)) (G0 := RowIn enc1 TT) (G := fun y r => ∃ t, y = .int r.2 t) (.inr ⟨_, by k_mem, rfl, _, rfl⟩) ?turn ws rows hws.rel 0 [] (fun j => by simp) ?fin
  case turn =>
    intro v r I oI C oC D ys m₂ h tk E' hr hC hx F N
    obtain ⟨R, p, t, n, rfl, hR, hp⟩ := hr
    have N := news_dup (q := (R, ({ cls := .type "tuple", data := .seq #[.ref p, .int r.2 t] n } : Obj))) N (by repeat (first | exact hT _ hR | refine List.Mem.tail _ ?_))
    by_cases hk : r.1 = k
    · have hb : decide (r.1 = k) = true := by simpa using hk
      k_steps
    · have hb : decide (r.1 = k) = false := by simpa using hk
      k_steps
  case fin =>
    intro zs hz D h tk F N off
    rw [List.nil_append] at N
    dsimp only
    k_steps
    k_dflt (refine LCt.CompSrcT.ledger (by rfl) (by k_asm) (by k_asm) (by k_mem) (my_fits hlen2) ?_)
    intro g9
    refine comp_rows (f := fun r => decide (r.1 ≠ k)) (G0 := RowIn enc1 TT) (G := RowIn enc1 TT) (.inr ⟨_, by k_mem, rfl, _, rfl⟩) ?turn ws rows hws.rel 0 [] (fun j => by simp) ?fin
    case turn =>
      intro v r I oI C oC D ys m₂ h tk E' hr hC hx F N
      have hr' := hr
      obtain ⟨R, p, t, n, rfl, hR, hp⟩ := hr
      have N := news_dup (q := (R, ({ cls := .type "tuple", data := .seq #[.ref p, .int r.2 t] n } : Obj))) N (by repeat (first | exact hT _ hR | refine List.Mem.tail _ ?_))
      by_cases hk : r.1 = k
      · have hb : decide (r.1 = k) = true := by simpa using hk
        k_steps
        all_goals simp [hk]
      · have hb : decide (r.1 = k) = false := by simpa using hk
        k_steps
        all_goals first | exact hr' | simp [hk]
    case fin =>
      intro zs2 hz2' D2 h tk F N off2
      rw [List.nil_append] at N
      dsimp only
      k_steps
      obtain ⟨_, o1, o2, o3, o4, o5, o6⟩ := off
      obtain ⟨o7, _, o8, o9, o10, o11, o12, o13⟩ := off2
      have f1 : ∀ q ∈ ((pg, instObj 124 pd) :: (pd, pgD w.params t4 t5 t6 hl dc wl) :: (hl, listOf hs.toArray n1) :: (dc, oc) :: (wl, listOf ws.toArray n3) :: tl), q.1 ≠ D := List.forall_mem_cons.mpr ⟨o1, List.forall_mem_cons.mpr ⟨o2, List.forall_mem_cons.mpr ⟨o3, List.forall_mem_cons.mpr ⟨o4, List.forall_mem_cons.mpr ⟨o5, off1_mem o6⟩⟩⟩⟩⟩
      have f2 : ∀ q ∈ ((pg, instObj 124 pd) :: (pd, pgD w.params t4 t5 t6 hl dc wl) :: (hl, listOf hs.toArray n1) :: (dc, oc) :: (wl, listOf ws.toArray n3) :: tl), q.1 ≠ D2 := List.forall_mem_cons.mpr ⟨o8, List.forall_mem_cons.mpr ⟨o9, List.forall_mem_cons.mpr ⟨o10, List.forall_mem_cons.mpr ⟨o11, List.forall_mem_cons.mpr ⟨o12, off1_mem o13⟩⟩⟩⟩⟩
      have f3 : D ≠ D2 := o7
      (refine' ret _ _ _ _ _ _ _ ?f (news_sub ?n ?s) ?_ ?_ ?_ ?_ hz hz2'.rows; (case f => k_asm); (case n => k_asm); (case s => walk_at "MINE sub"); (all_goals first | k_asm | k_all | k_ne))
theorem P_add_zero_a : ∀ x, P_add_zero_P x := pk_all e_6 P_add_zero_c
theorem e_7 : cc = k_7 := pk_next e_6 P_add_zero_a
theorem P_add_zero {prog w p loose mean mg mb dp un gd cn cs a ccd cl outer A₀ base h₀ L m s Q E tl pg pd hl dc wl pl tg t4 t5 t6 nt n1 n3 cnt hs ws held rows k oc TT many} : P_add_zero_S prog w p loose mean mg mb dp un gd cn cs a ccd cl outer A₀ base h₀ L m s Q E tl pg pd hl dc wl pl tg t4 t5 t6 nt n1 n3 cnt hs ws held rows k oc TT many :=
  P_add_zero_a (prog, w, p, loose, mean, mg, mb, dp, un, gd, cn, cs, a, ccd, cl, outer, A₀, base, h₀, L, m, s, Q, E, tl, tg, c_t1, c_t2, c_g, k, wl, many, pg, c_sd, c_ta, c_t3, c_osd, c_tm, c_tw, t4, t5, c_al, c_gl, c_n, c_vs, c_x, c_xd, c_q, pd, hl, dc, t6, nt, n1, n3, cnt, hs, ws, held, rows, oc, TT, c_z, c_fr, c_st, c_word, pl, cc.2.2.2.2.2.2.2.2.2.2.2.2.2.2.2.2.2.2.2.2.2.2.2.2.2.2.2.2.2.2.2.2.2.2.2.2.2.2.2.2.2.2.2.2.2.2.2.2.2.2.2.2.2.2.2.2.2.2.2.2.2.2.2.2.2.2.2)
theorem P_unl_bad_c : P_unl_bad_S c_prog c_w c_p c_loose c_mean c_mg c_mb c_dp c_un c_gd c_cn c_cs c_a c_ccd c_cl c_outer c_A₀ c_base c_h₀ c_L c_m c_s c_Q c_E c_tl c_pg c_pd c_hl c_dc c_wl c_pl c_t4 c_t5 c_t6 c_nt c_n1 c_n3 c_cnt c_hs c_ws c_held c_rows c_k c_oc c_TT := by
  refine' (?g : ∀ prog w p loose mean mg mb dp un gd cn cs a ccd cl outer A₀ base h₀ L m s Q E tl pg pd hl dc wl pl t4 t5 t6 nt n1 n3 cnt hs ws held rows k oc TT, P_unl_bad_S prog w p loose mean mg mb dp un gd cn cs a ccd cl outer A₀ base h₀ L m s Q E tl pg pd hl dc wl pl t4 t5 t6 nt n1 n3 cnt hs ws held rows k oc TT) c_prog c_w c_p c_loose c_mean c_mg c_mb c_dp c_un c_gd c_cn c_cs c_a c_ccd c_cl c_outer c_A₀ c_base c_h₀ c_L c_m c_s c_Q c_E c_tl c_pg c_pd c_hl c_dc c_wl c_pl c_t4 c_t5 c_t6 c_nt c_n1 c_n3 c_cnt c_hs c_ws c_held c_rows c_k c_oc c_TT
  intros prog w p loose mean mg mb dp un gd cn cs a ccd cl outer A₀ base h₀ L m s Q E tl pg pd hl dc wl pl t4 t5 t6 nt n1 n3 cnt hs ws held rows k oc TT
  intros B F X T hk N hpl hhs hws hoc hT lo hnd s1 s2 s3 s4 hlen hlen2 hnt hmem hdp hun ret
  simp only [List.nodup_cons, List.mem_cons, List.not_mem_nil, or_false, not_or, List.nodup_nil, and_true, not_false_eq_true] at hnd
  obtain ⟨⟨d1, d2, d3, d4⟩, ⟨d5, d6, d7⟩, ⟨d8, d9⟩, d10⟩ := hnd
  walk_at "MINE enter"
  k_steps
  refine' ret _ _ _ _ _ _ _ _ _ _ _ _ _ ?fr (RaisedE.sub ?rr ?ss) ?uu
  case rr => assumption
  case uu => assumption
  case fr => k_asm
  case ss => walk_at "MINE sub"
theorem P_unl_bad_a : ∀ x, P_unl_bad_P x := pk_all e_7 P_unl_bad_c
theorem e_8 : cc = k_8 := pk_next e_7 P_unl_bad_a
theorem P_unl_bad {prog w p loose mean mg mb dp un gd cn cs a ccd cl outer A₀ base h₀ L m s Q E tl pg pd hl dc wl pl t4 t5 t6 nt n1 n3 cnt hs ws held rows k oc TT} : P_unl_bad_S prog w p loose mean mg mb dp un gd cn cs a ccd cl outer A₀ base h₀ L m s Q E tl pg pd hl dc wl pl t4 t5 t6 nt n1 n3 cnt hs ws held rows k oc TT :=
  P_unl_bad_a (prog, w, p, loose, mean, mg, mb, dp, un, gd, cn, cs, a, ccd, cl, outer, A₀, base, h₀, L, m, s, Q, E, tl, c_tg, c_t1, c_t2, c_g, k, wl, c_many, pg, c_sd, c_ta, c_t3, c_osd, c_tm, c_tw, t4, t5, c_al, c_gl, c_n, c_vs, c_x, c_xd, c_q, pd, hl, dc, t6, nt, n1, n3, cnt, hs, ws, held, rows, oc, TT, c_z, c_fr, c_st, c_word, pl, cc.2.2.2.2.2.2.2.2.2.2.2.2.2.2.2.2.2.2.2.2.2.2.2.2.2.2.2.2.2.2.2.2.2.2.2.2.2.2.2.2.2.2.2.2.2.2.2.2.2.2.2.2.2.2.2.2.2.2.2.2.2.2.2.2.2.2.2)
theorem P_unl_none_c : P_unl_none_S c_prog c_w c_p c_loose c_mean c_mg c_mb c_dp c_un c_gd c_cn c_cs c_a c_ccd c_cl c_outer c_A₀ c_base c_h₀ c_L c_m c_s c_Q c_E c_tl c_pg c_pd c_hl c_dc c_wl c_pl c_t4 c_t5 c_t6 c_nt c_n1 c_n3 c_cnt c_hs c_ws c_held c_rows c_k c_oc c_TT := by
  refine' (?g : ∀ prog w p loose mean mg mb dp un gd cn cs a ccd cl outer A₀ base h₀ L m s Q E tl pg pd hl dc wl pl t4 t5 t6 nt n1 n3 cnt hs ws held rows k oc TT, P_unl_none_S prog w p loose mean mg mb dp un gd cn cs a ccd cl outer A₀ base h₀ L m s Q E tl pg pd hl dc wl pl t4 t5 t6 nt n1 n3 cnt hs ws held rows k oc TT) c_prog c_w c_p c_loose c_mean c_mg c_mb c_dp c_un c_gd c_cn c_cs c_a c_ccd c_cl c_outer c_A₀ c_base c_h₀ c_L c_m c_s c_Q c_E c_tl c_pg c_pd c_hl c_dc c_wl c_pl c_t4 c_t5 c_t6 c_nt c_n1 c_n3 c_cnt c_hs c_ws c_held c_rows c_k c_oc c_TT
  intros prog w p loose mean mg mb dp un gd cn cs a ccd cl outer A₀ base h₀ L m s Q E tl pg pd hl dc wl pl t4 t5 t6 nt n1 n3 cnt hs ws held rows k oc TT
  intros B F X T hk N hpl hhs hws hoc hT lo hnd s1 s2 s3 s4 hlen hlen2 hnt hmem hno hdp hun ret
  simp only [List.nodup_cons, List.mem_cons, List.not_mem_nil, or_false, not_or, List.nodup_nil, and_true, not_false_eq_true] at hnd
  obtain ⟨⟨d1, d2, d3, d4⟩, ⟨d5, d6, d7⟩, ⟨d8, d9⟩, d10⟩ := hnd
  walk_at "MINE enter"
  k_steps
  k_dflt (refine' list_lookL (fun _ => True) ?hh ?F ?N ?m ?hL trivial ?_ ?_; (case hh => exact rfl); (case F => k_asm); (case N => k_asm); (case m => k_mem); (case hL => exact rfl))
  · intro i v h tk hv _ F N
    obtain ⟨r, hr, R, p, t, n, rfl, hR, hp⟩ := hws.at hv
    have hne : decide (r.1 = k) = false := by simpa using hno r (List.mem_of_getElem? hr)
    have N := news_dup N (.tail _ (.tail _ (.tail _ (.tail _ (.tail _ (hT _ hR))))))
    k_steps
    exact ⟨trivial, _, rfl⟩
  · intro u h tk _ F N
    k_steps
    (refine' ret _ _ _ ?f (news_sub ?n ?s) ?_; (case f => k_asm); (case n => k_asm); (case s => walk_at "MINE sub"); (all_goals first | k_asm | k_all | k_ne))
theorem P_unl_none_a : ∀ x, P_unl_none_P x := pk_all e_8 P_unl_none_c
theorem e_9 : cc = k_9 := pk_next e_8 P_unl_none_a
theorem P_unl_none {prog w p loose mean mg mb dp un gd cn cs a ccd cl outer A₀ base h₀ L m s Q E tl pg pd hl dc wl pl t4 t5 t6 nt n1 n3 cnt hs ws held rows k oc TT} : P_unl_none_S prog w p loose mean mg mb dp un gd cn cs a ccd cl outer A₀ base h₀ L m s Q E tl pg pd hl dc wl pl t4 t5 t6 nt n1 n3 cnt hs ws held rows k oc TT :=
  P_unl_none_a (prog, w, p, loose, mean, mg, mb, dp, un, gd, cn, cs, a, ccd, cl, outer, A₀, base, h₀, L, m, s, Q, E, tl, c_tg, c_t1, c_t2, c_g, k, wl, c_many, pg, c_sd, c_ta, c_t3, c_osd, c_tm, c_tw, t4, t5, c_al, c_gl, c_n, c_vs, c_x, c_xd, c_q, pd, hl, dc, t6, nt, n1, n3, cnt, hs, ws, held, rows, oc, TT, c_z, c_fr, c_st, c_word, pl, cc.2.2.2.2.2.2.2.2.2.2.2.2.2.2.2.2.2.2.2.2.2.2.2.2.2.2.2.2.2.2.2.2.2.2.2.2.2.2.2.2.2.2.2.2.2.2.2.2.2.2.2.2.2.2.2.2.2.2.2.2.2.2.2.2.2.2.2)
theorem P_unl_first_c : P_unl_first_S c_prog c_w c_p c_loose c_mean c_mg c_mb c_dp c_un c_gd c_cn c_cs c_a c_ccd c_cl c_outer c_A₀ c_base c_h₀ c_L c_m c_s c_Q c_E c_tl c_pg c_pd c_hl c_dc c_wl c_pl c_t4 c_t5 c_t6 c_nt c_n1 c_n3 c_cnt c_hs c_ws c_held c_rows c_g c_k c_oc c_TT c_pre c_post := by
  refine' (?g : ∀ prog w p loose mean mg mb dp un gd cn cs a ccd cl outer A₀ base h₀ L m s Q E tl pg pd hl dc wl pl t4 t5 t6 nt n1 n3 cnt hs ws held rows g k oc TT pre post, P_unl_first_S prog w p loose mean mg mb dp un gd cn cs a ccd cl outer A₀ base h₀ L m s Q E tl pg pd hl dc wl pl t4 t5 t6 nt n1 n3 cnt hs ws held rows g k oc TT pre post) c_prog c_w c_p c_loose c_mean c_mg c_mb c_dp c_un c_gd c_cn c_cs c_a c_ccd c_cl c_outer c_A₀ c_base c_h₀ c_L c_m c_s c_Q c_E c_tl c_pg c_pd c_hl c_dc c_wl c_pl c_t4 c_t5 c_t6 c_nt c_n1 c_n3 c_cnt c_hs c_ws c_held c_rows c_g c_k c_oc c_TT c_pre c_post
  intros prog w p loose mean mg mb dp un gd cn cs a ccd cl outer A₀ base h₀ L m s Q E tl pg pd hl dc wl pl t4 t5 t6 nt n1 n3 cnt hs ws held rows g k oc TT pre post
  intros B F X T hk N hpl hhs hws hoc hT lo hnd s1 s2 s3 s4 hlen hlen2 hnt hmem hrows hno hdp hun ret
  simp only [List.nodup_cons, List.mem_cons, List.not_mem_nil, or_false, not_or, List.nodup_nil, and_true, not_false_eq_true] at hnd
  obtain ⟨⟨d1, d2, d3, d4⟩, ⟨d5, d6, d7⟩, ⟨d8, d9⟩, d10⟩ := hnd
  walk_at "MINE enter"
  subst hrows
  k_steps
  k_dflt (refine' list_lookL (fun i => i ≤ pre.length) ?hh ?F ?N ?m ?hL (Nat.zero_le _) ?_ ?_; (case hh => exact rfl); (case F => k_asm); (case N => k_asm); (case m => k_mem); (case hL => exact rfl))
  · intro i v h tk hv hle F N
    obtain ⟨r, hr, hrow⟩ := hws.at hv
    have hrow' := hrow
    obtain ⟨R, p, t, n, rfl, hR, hp⟩ := hrow
    have N := news_dup N (.tail _ (.tail _ (.tail _ (.tail _ (.tail _ (hT _ hR))))))
    by_cases hi : i = pre.length
    · subst hi
      have hrk : r = (k, g) := by
        rw [List.getElem?_append_right (Nat.le_refl _)] at hr
        simpa using hr.symm
      subst hrk
      have hne : decide (k = k) = true := by simp
      k_steps
      all_goals dsimp only [LookPost]
      k_steps
      (refine' ret _ _ _ _ ?f (news_sub ?n ?s) ?_; (case f => k_asm); (case n => k_asm); (case s => walk_at "MINE sub"); (all_goals first | k_asm | k_all | k_ne))
    · have hlt : i < pre.length := Nat.lt_of_le_of_ne hle hi
      have hne : decide (r.1 = k) = false := by
        rw [List.getElem?_append_left hlt] at hr
        simpa using hno r (List.mem_of_getElem? hr)
      k_steps
      exact ⟨hlt, _, rfl⟩
  · intro u h tk hle F N
    have := hws.length
    simp at this hle
    omega
theorem P_unl_first_a : ∀ x, P_unl_first_P x := pk_all e_9 P_unl_first_c
theorem e_10 : cc = k_10 := pk_next e_9 P_unl_first_a
theorem P_unl_first {prog w p loose mean mg mb dp un gd cn cs a ccd cl outer A₀ base h₀ L m s Q E tl pg pd hl dc wl pl t4 t5 t6 nt n1 n3 cnt hs ws held rows g k oc TT pre post} : P_unl_first_S prog w p loose mean mg mb dp un gd cn cs a ccd cl outer A₀ base h₀ L m s Q E tl pg pd hl dc wl pl t4 t5 t6 nt n1 n3 cnt hs ws held rows g k oc TT pre post :=
  P_unl_first_a (prog, w, p, loose, mean, mg, mb, dp, un, gd, cn, cs, a, ccd, cl, outer, A₀, base, h₀, L, m, s, Q, E, tl, c_tg, c_t1, c_t2, g, k, wl, c_many, pg, c_sd, c_ta, c_t3, c_osd, c_tm, c_tw, t4, t5, c_al, c_gl, c_n, c_vs, c_x, c_xd, c_q, pd, hl, dc, t6, nt, n1, n3, cnt, hs, ws, held, rows, oc, TT, c_z, c_fr, c_st, c_word, pl, c_tc, c_c, c_gl_, c_ng, c_gs, c_pv, c_to, c_o, c_b, c_out, c_tx, c_G, c_al_, c_na, c_as, c_st', c_asl, c_st2, c_D, c_l, pre, post, cc.2.2.2.2.2.2.2.2.2.2.2.2.2.2.2.2.2.2.2.2.2.2.2.2.2.2.2.2.2.2.2.2.2.2.2.2.2.2.2.2.2.2.2.2.2.2.2.2.2.2.2.2.2.2.2.2.2.2.2.2.2.2.2.2.2.2.2.2.2.2.2.2.2.2.2.2.2.2.2.2.2.2.2.2.2.2.2.2.2)
end
-- PC2
section
local macro_rules | `(tactic| walk_at $k:str) => mtRun [] k.getString
theorem M_lock_free_c : M_lock_free_S c_prog c_w c_p c_loose c_mean c_mg c_mb c_dp c_un c_gd c_cn c_cs c_a c_ccd c_cl c_outer c_A₀ c_base c_h₀ c_L c_m c_s c_Q c_E c_tl c_x c_xd c_wl c_tg c_t1 c_t2 c_n c_vs c_q c_g := by
  refine' (?g : ∀ prog w p loose mean mg mb dp un gd cn cs a ccd cl outer A₀ base h₀ L m s Q E tl x xd wl tg t1 t2 n vs q g, M_lock_free_S prog w p loose mean mg mb dp un gd cn cs a ccd cl outer A₀ base h₀ L m s Q E tl x xd wl tg t1 t2 n vs q g) c_prog c_w c_p c_loose c_mean c_mg c_mb c_dp c_un c_gd c_cn c_cs c_a c_ccd c_cl c_outer c_A₀ c_base c_h₀ c_L c_m c_s c_Q c_E c_tl c_x c_xd c_wl c_tg c_t1 c_t2 c_n c_vs c_q c_g
  intros prog w p loose mean mg mb dp un gd cn cs a ccd cl outer A₀ base h₀ L m s Q E tl x xd wl tg t1 t2 n vs q g
  intros B F X T hk N hq hnd s1 s2 hlen hdp hun ret
  simp only [List.nodup_cons, List.mem_cons, List.not_mem_nil, or_false, not_or, List.nodup_nil, and_true, not_false_eq_true] at hnd
  obtain ⟨⟨d1, d2⟩, d3⟩ := hnd
  walk_at "MINE enter"
  k_steps
  all_goals ((with_reducible rename News h₀ L _ _ => kN9); (try simp only [List.push_toArray] at kN9))
  all_goals first | (refine' ret _ _ ?f (news_sub ?n ?s); (case f => k_asm); (case n => k_asm); (case s => walk_at "MINE sub"); (all_goals first | k_asm | k_all | k_ne)) | (exfalso; omega) | (exfalso; simp_all; done)
theorem M_lock_free_a : ∀ x, M_lock_free_P x := pk_all e_10 M_lock_free_c
theorem e_11 : cc = k_11 := pk_next e_10 M_lock_free_a
theorem M_lock_free {prog w p loose mean mg mb dp un gd cn cs a ccd cl outer A₀ base h₀ L m s Q E tl x xd wl tg t1 t2 n vs q g} : M_lock_free_S prog w p loose mean mg mb dp un gd cn cs a ccd cl outer A₀ base h₀ L m s Q E tl x xd wl tg t1 t2 n vs q g :=
  M_lock_free_a (prog, w, p, loose, mean, mg, mb, dp, un, gd, cn, cs, a, ccd, cl, outer, A₀, base, h₀, L, m, s, Q, E, tl, tg, t1, t2, g, c_k, wl, c_many, c_pg, c_sd, c_ta, c_t3, c_osd, c_tm, c_tw, c_t4, c_t5, c_al, c_gl, n, vs, x, xd, q, cc.2.2.2.2.2.2.2.2.2.2.2.2.2.2.2.2.2.2.2.2.2.2.2.2.2.2.2.2.2.2.2.2.2.2.2.2.2.2.2.2.2.2.2.2.2.2.2.2)
theorem M_lock_held_c : M_lock_held_S c_prog c_w c_p c_loose c_mean c_mg c_mb c_dp c_un c_gd c_cn c_cs c_a c_ccd c_cl c_outer c_A₀ c_base c_h₀ c_L c_m c_s c_Q c_E c_tl c_x c_xd c_wl c_tg c_t1 c_t2 c_to c_n c_vs c_q c_g c_o := by
  refine' (?g : ∀ prog w p loose mean mg mb dp un gd cn cs a ccd cl outer A₀ base h₀ L m s Q E tl x xd wl tg t1 t2 to n vs q g o, M_lock_held_S prog w p loose mean mg mb dp un gd cn cs a ccd cl outer A₀ base h₀ L m s Q E tl x xd wl tg t1 t2 to n vs q g o) c_prog c_w c_p c_loose c_mean c_mg c_mb c_dp c_un c_gd c_cn c_cs c_a c_ccd c_cl c_outer c_A₀ c_base c_h₀ c_L c_m c_s c_Q c_E c_tl c_x c_xd c_wl c_tg c_t1 c_t2 c_to c_n c_vs c_q c_g c_o
  intros prog w p loose mean mg mb dp un gd cn cs a ccd cl outer A₀ base h₀ L m s Q E tl x xd wl tg t1 t2 to n vs q g o
  intros B F X T hk N hq hnd s1 s2 hlen hmem hdp hun ret
  simp only [List.nodup_cons, List.mem_cons, List.not_mem_nil, or_false, not_or, List.nodup_nil, and_true, not_false_eq_true] at hnd
  obtain ⟨⟨d1, d2⟩, d3⟩ := hnd
  walk_at "MINE enter"
  k_steps
  all_goals ((with_reducible rename News h₀ L _ _ => kN9); (try simp only [List.push_toArray] at kN9))
  all_goals first | (refine' ret _ _ ?f (news_sub ?n ?s); (case f => k_asm); (case n => k_asm); (case s => walk_at "MINE sub"); (all_goals first | k_asm | k_all | k_ne)) | (exfalso; omega) | (exfalso; simp_all; done)
theorem M_lock_held_a : ∀ x, M_lock_held_P x := pk_all e_11 M_lock_held_c
theorem e_12 : cc = k_12 := pk_next e_11 M_lock_held_a
theorem M_lock_held {prog w p loose mean mg mb dp un gd cn cs a ccd cl outer A₀ base h₀ L m s Q E tl x xd wl tg t1 t2 to n vs q g o} : M_lock_held_S prog w p loose mean mg mb dp un gd cn cs a ccd cl outer A₀ base h₀ L m s Q E tl x xd wl tg t1 t2 to n vs q g o :=
  M_lock_held_a (prog, w, p, loose, mean, mg, mb, dp, un, gd, cn, cs, a, ccd, cl, outer, A₀, base, h₀, L, m, s, Q, E, tl, tg, t1, t2, g, c_k, wl, c_many, c_pg, c_sd, c_ta, c_t3, c_osd, c_tm, c_tw, c_t4, c_t5, c_al, c_gl, n, vs, x, xd, q, c_pd, c_hl, c_dc, c_t6, c_nt, c_n1, c_n3, c_cnt, c_hs, c_ws, c_held, c_rows, c_oc, c_TT, c_z, c_fr, c_st, c_word, c_pl, c_tc, c_c, c_gl_, c_ng, c_gs, c_pv, to, o, cc.2.2.2.2.2.2.2.2.2.2.2.2.2.2.2.2.2.2.2.2.2.2.2.2.2.2.2.2.2.2.2.2.2.2.2.2.2.2.2.2.2.2.2.2.2.2.2.2.2.2.2.2.2.2.2.2.2.2.2.2.2.2.2.2.2.2.2.2.2.2.2.2.2.2.2)
theorem M_unl_none_c : M_unl_none_S c_prog c_w c_p c_loose c_mean c_mg c_mb c_dp c_un c_gd c_cn c_cs c_a c_ccd c_cl c_outer c_A₀ c_base c_h₀ c_L c_m c_s c_Q c_E c_tl c_x c_xd c_wl c_t1 c_t2 c_to c_n c_vs c_q c_o := by
  refine' (?g : ∀ prog w p loose mean mg mb dp un gd cn cs a ccd cl outer A₀ base h₀ L m s Q E tl x xd wl t1 t2 to n vs q o, M_unl_none_S prog w p loose mean mg mb dp un gd cn cs a ccd cl outer A₀ base h₀ L m s Q E tl x xd wl t1 t2 to n vs q o) c_prog c_w c_p c_loose c_mean c_mg c_mb c_dp c_un c_gd c_cn c_cs c_a c_ccd c_cl c_outer c_A₀ c_base c_h₀ c_L c_m c_s c_Q c_E c_tl c_x c_xd c_wl c_t1 c_t2 c_to c_n c_vs c_q c_o
  intros prog w p loose mean mg mb dp un gd cn cs a ccd cl outer A₀ base h₀ L m s Q E tl x xd wl t1 t2 to n vs q o
  intros B F X T hk N hq hnd s1 s2 hlen hvs hdp hun ret
  simp only [List.nodup_cons, List.mem_cons, List.not_mem_nil, or_false, not_or, List.nodup_nil, and_true, not_false_eq_true] at hnd
  obtain ⟨⟨d1, d2⟩, d3⟩ := hnd
  walk_at "MINE enter"
  k_steps
  all_goals ((with_reducible rename News h₀ L _ _ => kN9); (try simp only [List.push_toArray] at kN9))
  all_goals first | (refine' ret _ _ ?f (news_sub ?n ?s); (case f => k_asm); (case n => k_asm); (case s => walk_at "MINE sub"); (all_goals first | k_asm | k_all | k_ne)) | (exfalso; omega) | (exfalso; simp_all; done)
theorem M_unl_none_a : ∀ x, M_unl_none_P x := pk_all e_12 M_unl_none_c
theorem e_13 : cc = k_13 := pk_next e_12 M_unl_none_a
theorem M_unl_none {prog w p loose mean mg mb dp un gd cn cs a ccd cl outer A₀ base h₀ L m s Q E tl x xd wl t1 t2 to n vs q o} : M_unl_none_S prog w p loose mean mg mb dp un gd cn cs a ccd cl outer A₀ base h₀ L m s Q E tl x xd wl t1 t2 to n vs q o :=
  M_unl_none_a (prog, w, p, loose, mean, mg, mb, dp, un, gd, cn, cs, a, ccd, cl, outer, A₀, base, h₀, L, m, s, Q, E, tl, c_tg, t1, t2, c_g, c_k, wl, c_many, c_pg, c_sd, c_ta, c_t3, c_osd, c_tm, c_tw, c_t4, c_t5, c_al, c_gl, n, vs, x, xd, q, c_pd, c_hl, c_dc, c_t6, c_nt, c_n1, c_n3, c_cnt, c_hs, c_ws, c_held, c_rows, c_oc, c_TT, c_z, c_fr, c_st, c_word, c_pl, c_tc, c_c, c_gl_, c_ng, c_gs, c_pv, to, o, cc.2.2.2.2.2.2.2.2.2.2.2.2.2.2.2.2.2.2.2.2.2.2.2.2.2.2.2.2.2.2.2.2.2.2.2.2.2.2.2.2.2.2.2.2.2.2.2.2.2.2.2.2.2.2.2.2.2.2.2.2.2.2.2.2.2.2.2.2.2.2.2.2.2.2.2)
theorem M_unl_first_c : M_unl_first_S c_prog c_w c_p c_loose c_mean c_mg c_mb c_dp c_un c_gd c_cn c_cs c_a c_ccd c_cl c_outer c_A₀ c_base c_h₀ c_L c_m c_s c_Q c_E c_tl c_x c_xd c_wl c_t1 c_t2 c_to c_n c_vs c_q c_o c_r c_qs c_tr c_us := by
  refine' (?g : ∀ prog w p loose mean mg mb dp un gd cn cs a ccd cl outer A₀ base h₀ L m s Q E tl x xd wl t1 t2 to n vs q o r qs tr us, M_unl_first_S prog w p loose mean mg mb dp un gd cn cs a ccd cl outer A₀ base h₀ L m s Q E tl x xd wl t1 t2 to n vs q o r qs tr us) c_prog c_w c_p c_loose c_mean c_mg c_mb c_dp c_un c_gd c_cn c_cs c_a c_ccd c_cl c_outer c_A₀ c_base c_h₀ c_L c_m c_s c_Q c_E c_tl c_x c_xd c_wl c_t1 c_t2 c_to c_n c_vs c_q c_o c_r c_qs c_tr c_us
  intros prog w p loose mean mg mb dp un gd cn cs a ccd cl outer A₀ base h₀ L m s Q E tl x xd wl t1 t2 to n vs q o r qs tr us
  intros B F X T hk N hq hnd s1 s2 hlen hvs hqe hdp hun ret
  simp only [List.nodup_cons, List.mem_cons, List.not_mem_nil, or_false, not_or, List.nodup_nil, and_true, not_false_eq_true] at hnd
  obtain ⟨⟨d1, d2⟩, d3⟩ := hnd
  walk_at "MINE enter"
  subst hvs
  subst hqe
  k_steps
  all_goals ((with_reducible rename News h₀ L _ _ => kN9); (try simp only [List.push_toArray] at kN9))
  all_goals first | (refine' ret _ _ ?f (news_sub ?n ?s); (case f => k_asm); (case n => k_asm); (case s => walk_at "MINE sub"); (all_goals first | k_asm | k_all | k_ne)) | (exfalso; omega) | (exfalso; simp_all; done)
theorem M_unl_first_a : ∀ x, M_unl_first_P x := pk_all e_13 M_unl_first_c
theorem e_14 : cc = k_14 := pk_next e_13 M_unl_first_a
theorem M_unl_first {prog w p loose mean mg mb dp un gd cn cs a ccd cl outer A₀ base h₀ L m s Q E tl x xd wl t1 t2 to n vs q o r qs tr us} : M_unl_first_S prog w p loose mean mg mb dp un gd cn cs a ccd cl outer A₀ base h₀ L m s Q E tl x xd wl t1 t2 to n vs q o r qs tr us :=
  M_unl_first_a (prog, w, p, loose, mean, mg, mb, dp, un, gd, cn, cs, a, ccd, cl, outer, A₀, base, h₀, L, m, s, Q, E, tl, c_tg, t1, t2, c_g, c_k, wl, c_many, c_pg, c_sd, c_ta, c_t3, c_osd, c_tm, c_tw, c_t4, c_t5, c_al, c_gl, n, vs, x, xd, q, c_pd, c_hl, c_dc, c_t6, c_nt, c_n1, c_n3, c_cnt, c_hs, c_ws, c_held, c_rows, c_oc, c_TT, c_z, c_fr, c_st, c_word, c_pl, c_tc, c_c, c_gl_, c_ng, c_gs, c_pv, to, o, c_b, c_out, c_tx, c_G, c_al_, c_na, c_as, c_st', c_asl, c_st2, c_D, c_l, c_pre, c_post, qs, tr, c_asl1, c_st1, c_K, c_ps, c_i, c_j, c_tb, r, us, cc.2.2.2.2.2.2.2.2.2.2.2.2.2.2.2.2.2.2.2.2.2.2.2.2.2.2.2.2.2.2.2.2.2.2.2.2.2.2.2.2.2.2.2.2.2.2.2.2.2.2.2.2.2.2.2.2.2.2.2.2.2.2.2.2.2.2.2.2.2.2.2.2.2.2.2.2.2.2.2.2.2.2.2.2.2.2.2.2.2.2.2.2.2.2.2.2.2.2.2.2)
theorem M_unl_bad_c : M_unl_bad_S c_prog c_w c_p c_loose c_mean c_mg c_mb c_dp c_un c_gd c_cn c_cs c_a c_ccd c_cl c_outer c_A₀ c_base c_h₀ c_L c_m c_s c_Q c_E c_tl c_x c_xd c_wl c_t1 c_t2 c_n c_vs c_q := by
  refine' (?g : ∀ prog w p loose mean mg mb dp un gd cn cs a ccd cl outer A₀ base h₀ L m s Q E tl x xd wl t1 t2 n vs q, M_unl_bad_S prog w p loose mean mg mb dp un gd cn cs a ccd cl outer A₀ base h₀ L m s Q E tl x xd wl t1 t2 n vs q) c_prog c_w c_p c_loose c_mean c_mg c_mb c_dp c_un c_gd c_cn c_cs c_a c_ccd c_cl c_outer c_A₀ c_base c_h₀ c_L c_m c_s c_Q c_E c_tl c_x c_xd c_wl c_t1 c_t2 c_n c_vs c_q
  intros prog w p loose mean mg mb dp un gd cn cs a ccd cl outer A₀ base h₀ L m s Q E tl x xd wl t1 t2 n vs q
  intros B F X T hk N hq hnd s1 s2 hlen hdp hun ret
  simp only [List.nodup_cons, List.mem_cons, List.not_mem_nil, or_false, not_or, List.nodup_nil, and_true, not_false_eq_true] at hnd
  obtain ⟨⟨d1, d2⟩, d3⟩ := hnd
  walk_at "MINE enter"
  k_steps
  refine' ret _ _ _ _ _ _ _ _ _ _ _ _ _ ?fr (RaisedE.sub ?rr ?ss) ?uu
  case rr => assumption
  case uu => assumption
  case fr => k_asm
  case ss => walk_at "MINE sub"
theorem M_unl_bad_a : ∀ x, M_unl_bad_P x := pk_all e_14 M_unl_bad_c
theorem e_15 : cc = k_15 := pk_next e_14 M_unl_bad_a
theorem M_unl_bad {prog w p loose mean mg mb dp un gd cn cs a ccd cl outer A₀ base h₀ L m s Q E tl x xd wl t1 t2 n vs q} : M_unl_bad_S prog w p loose mean mg mb dp un gd cn cs a ccd cl outer A₀ base h₀ L m s Q E tl x xd wl t1 t2 n vs q :=
  M_unl_bad_a (prog, w, p, loose, mean, mg, mb, dp, un, gd, cn, cs, a, ccd, cl, outer, A₀, base, h₀, L, m, s, Q, E, tl, c_tg, t1, t2, c_g, c_k, wl, c_many, c_pg, c_sd, c_ta, c_t3, c_osd, c_tm, c_tw, c_t4, c_t5, c_al, c_gl, n, vs, x, xd, q, cc.2.2.2.2.2.2.2.2.2.2.2.2.2.2.2.2.2.2.2.2.2.2.2.2.2.2.2.2.2.2.2.2.2.2.2.2.2.2.2.2.2.2.2.2.2.2.2.2)
theorem M_isl_none_c : M_isl_none_S c_prog c_w c_p c_loose c_mean c_mg c_mb c_dp c_un c_gd c_cn c_cs c_a c_ccd c_cl c_outer c_A₀ c_base c_h₀ c_L c_m c_s c_Q c_E c_tl c_x c_xd c_wl c_t1 c_t2 c_n c_vs c_q := by
  refine' (?g : ∀ prog w p loose mean mg mb dp un gd cn cs a ccd cl outer A₀ base h₀ L m s Q E tl x xd wl t1 t2 n vs q, M_isl_none_S prog w p loose mean mg mb dp un gd cn cs a ccd cl outer A₀ base h₀ L m s Q E tl x xd wl t1 t2 n vs q) c_prog c_w c_p c_loose c_mean c_mg c_mb c_dp c_un c_gd c_cn c_cs c_a c_ccd c_cl c_outer c_A₀ c_base c_h₀ c_L c_m c_s c_Q c_E c_tl c_x c_xd c_wl c_t1 c_t2 c_n c_vs c_q
  intros prog w p loose mean mg mb dp un gd cn cs a ccd cl outer A₀ base h₀ L m s Q E tl x xd wl t1 t2 n vs q
  intros B F X T hk N hq hnd s1 s2 hlen hdp hun ret
  simp only [List.nodup_cons, List.mem_cons, List.not_mem_nil, or_false, not_or, List.nodup_nil, and_true, not_false_eq_true] at hnd
  obtain ⟨⟨d1, d2⟩, d3⟩ := hnd
  walk_at "MINE enter"
  k_steps
  all_goals ((with_reducible rename News h₀ L _ _ => kN9); (try simp only [List.push_toArray] at kN9))
  all_goals first | (refine' ret _ _ ?f (news_sub ?n ?s); (case f => k_asm); (case n => k_asm); (case s => walk_at "MINE sub"); (all_goals first | k_asm | k_all | k_ne)) | (exfalso; omega) | (exfalso; simp_all; done)
theorem M_isl_none_a : ∀ x, M_isl_none_P x := pk_all e_15 M_isl_none_c
theorem e_16 : cc = k_16 := pk_next e_15 M_isl_none_a
theorem M_isl_none {prog w p loose mean mg mb dp un gd cn cs a ccd cl outer A₀ base h₀ L m s Q E tl x xd wl t1 t2 n vs q} : M_isl_none_S prog w p loose mean mg mb dp un gd cn cs a ccd cl outer A₀ base h₀ L m s Q E tl x xd wl t1 t2 n vs q :=
  M_isl_none_a (prog, w, p, loose, mean, mg, mb, dp, un, gd, cn, cs, a, ccd, cl, outer, A₀, base, h₀, L, m, s, Q, E, tl, c_tg, t1, t2, c_g, c_k, wl, c_many, c_pg, c_sd, c_ta, c_t3, c_osd, c_tm, c_tw, c_t4, c_t5, c_al, c_gl, n, vs, x, xd, q, cc.2.2.2.2.2.2.2.2.2.2.2.2.2.2.2.2.2.2.2.2.2.2.2.2.2.2.2.2.2.2.2.2.2.2.2.2.2.2.2.2.2.2.2.2.2.2.2.2)
theorem M_isl_some_c : M_isl_some_S c_prog c_w c_p c_loose c_mean c_mg c_mb c_dp c_un c_gd c_cn c_cs c_a c_ccd c_cl c_outer c_A₀ c_base c_h₀ c_L c_m c_s c_Q c_E c_tl c_x c_xd c_wl c_t1 c_t2 c_to c_n c_vs c_q c_o := by
  refine' (?g : ∀ prog w p loose mean mg mb dp un gd cn cs a ccd cl outer A₀ base h₀ L m s Q E tl x xd wl t1 t2 to n vs q o, M_isl_some_S prog w p loose mean mg mb dp un gd cn cs a ccd cl outer A₀ base h₀ L m s Q E tl x xd wl t1 t2 to n vs q o) c_prog c_w c_p c_loose c_mean c_mg c_mb c_dp c_un c_gd c_cn c_cs c_a c_ccd c_cl c_outer c_A₀ c_base c_h₀ c_L c_m c_s c_Q c_E c_tl c_x c_xd c_wl c_t1 c_t2 c_to c_n c_vs c_q c_o
  intros prog w p loose mean mg mb dp un gd cn cs a ccd cl outer A₀ base h₀ L m s Q E tl x xd wl t1 t2 to n vs q o
  intros B F X T hk N hq hnd s1 s2 hlen hdp hun ret
  simp only [List.nodup_cons, List.mem_cons, List.not_mem_nil, or_false, not_or, List.nodup_nil, and_true, not_false_eq_true] at hnd
  obtain ⟨⟨d1, d2⟩, d3⟩ := hnd
  walk_at "MINE enter"
  k_steps
  all_goals ((with_reducible rename News h₀ L _ _ => kN9); (try simp only [List.push_toArray] at kN9))
  all_goals first | (refine' ret _ _ ?f (news_sub ?n ?s); (case f => k_asm); (case n => k_asm); (case s => walk_at "MINE sub"); (all_goals first | k_asm | k_all | k_ne)) | (exfalso; omega) | (exfalso; simp_all; done)
theorem M_isl_some_a : ∀ x, M_isl_some_P x := pk_all e_16 M_isl_some_c
theorem e_17 : cc = k_17 := pk_next e_16 M_isl_some_a
theorem M_isl_some {prog w p loose mean mg mb dp un gd cn cs a ccd cl outer A₀ base h₀ L m s Q E tl x xd wl t1 t2 to n vs q o} : M_isl_some_S prog w p loose mean mg mb dp un gd cn cs a ccd cl outer A₀ base h₀ L m s Q E tl x xd wl t1 t2 to n vs q o :=
  M_isl_some_a (prog, w, p, loose, mean, mg, mb, dp, un, gd, cn, cs, a, ccd, cl, outer, A₀, base, h₀, L, m, s, Q, E, tl, c_tg, t1, t2, c_g, c_k, wl, c_many, c_pg, c_sd, c_ta, c_t3, c_osd, c_tm, c_tw, c_t4, c_t5, c_al, c_gl, n, vs, x, xd, q, c_pd, c_hl, c_dc, c_t6, c_nt, c_n1, c_n3, c_cnt, c_hs, c_ws, c_held, c_rows, c_oc, c_TT, c_z, c_fr, c_st, c_word, c_pl, c_tc, c_c, c_gl_, c_ng, c_gs, c_pv, to, o, cc.2.2.2.2.2.2.2.2.2.2.2.2.2.2.2.2.2.2.2.2.2.2.2.2.2.2.2.2.2.2.2.2.2.2.2.2.2.2.2.2.2.2.2.2.2.2.2.2.2.2.2.2.2.2.2.2.2.2.2.2.2.2.2.2.2.2.2.2.2.2.2.2.2.2.2)
theorem W_add_neg_c : W_add_neg_S c_prog c_w c_p c_loose c_mean c_mg c_mb c_dp c_un c_gd c_cn c_cs c_a c_ccd c_cl c_outer c_A₀ c_base c_h₀ c_L c_m c_s c_Q c_E c_tl c_x c_xd c_wl c_tg c_t1 c_t2 c_tc c_n c_vs c_q c_g c_c := by
  refine' (?g : ∀ prog w p loose mean mg mb dp un gd cn cs a ccd cl outer A₀ base h₀ L m s Q E tl x xd wl tg t1 t2 tc n vs q g c, W_add_neg_S prog w p loose mean mg mb dp un gd cn cs a ccd cl outer A₀ base h₀ L m s Q E tl x xd wl tg t1 t2 tc n vs q g c) c_prog c_w c_p c_loose c_mean c_mg c_mb c_dp c_un c_gd c_cn c_cs c_a c_ccd c_cl c_outer c_A₀ c_base c_h₀ c_L c_m c_s c_Q c_E c_tl c_x c_xd c_wl c_tg c_t1 c_t2 c_tc c_n c_vs c_q c_g c_c
  intros prog w p loose mean mg mb dp un gd cn cs a ccd cl outer A₀ base h₀ L m s Q E tl x xd wl tg t1 t2 tc n vs q g c
  intros B F X T hk N hq hnd s1 s2 hlen hz hdp hun ret
  simp only [List.nodup_cons, List.mem_cons, List.not_mem_nil, or_false, not_or, List.nodup_nil, and_true, not_false_eq_true] at hnd
  obtain ⟨⟨d1, d2⟩, d3⟩ := hnd
  walk_at "MINE enter"
  k_steps
  refine' ret _ _ _ _ _ _ _ _ _ _ _ _ _ ?fr (RaisedE.sub ?rr ?ss) ?uu
  case rr => assumption
  case uu => assumption
  case fr => k_asm
  case ss => walk_at "MINE sub"
theorem W_add_neg_a : ∀ x, W_add_neg_P x := pk_all e_17 W_add_neg_c
theorem e_18 : cc = k_18 := pk_next e_17 W_add_neg_a
theorem W_add_neg {prog w p loose mean mg mb dp un gd cn cs a ccd cl outer A₀ base h₀ L m s Q E tl x xd wl tg t1 t2 tc n vs q g c} : W_add_neg_S prog w p loose mean mg mb dp un gd cn cs a ccd cl outer A₀ base h₀ L m s Q E tl x xd wl tg t1 t2 tc n vs q g c :=
  W_add_neg_a (prog, w, p, loose, mean, mg, mb, dp, un, gd, cn, cs, a, ccd, cl, outer, A₀, base, h₀, L, m, s, Q, E, tl, tg, t1, t2, g, c_k, wl, c_many, c_pg, c_sd, c_ta, c_t3, c_osd, c_tm, c_tw, c_t4, c_t5, c_al, c_gl, n, vs, x, xd, q, c_pd, c_hl, c_dc, c_t6, c_nt, c_n1, c_n3, c_cnt, c_hs, c_ws, c_held, c_rows, c_oc, c_TT, c_z, c_fr, c_st, c_word, c_pl, tc, c, cc.2.2.2.2.2.2.2.2.2.2.2.2.2.2.2.2.2.2.2.2.2.2.2.2.2.2.2.2.2.2.2.2.2.2.2.2.2.2.2.2.2.2.2.2.2.2.2.2.2.2.2.2.2.2.2.2.2.2.2.2.2.2.2.2.2.2.2.2.2)
theorem W_add_pos_c : W_add_pos_S c_prog c_w c_p c_loose c_mean c_mg c_mb c_dp c_un c_gd c_cn c_cs c_a c_ccd c_cl c_outer c_A₀ c_base c_h₀ c_L c_m c_s c_Q c_E c_tl c_x c_xd c_wl c_tg c_t1 c_t2 c_tc c_n c_vs c_q c_g c_c := by
  refine' (?g : ∀ prog w p loose mean mg mb dp un gd cn cs a ccd cl outer A₀ base h₀ L m s Q E tl x xd wl tg t1 t2 tc n vs q g c, W_add_pos_S prog w p loose mean mg mb dp un gd cn cs a ccd cl outer A₀ base h₀ L m s Q E tl x xd wl tg t1 t2 tc n vs q g c) c_prog c_w c_p c_loose c_mean c_mg c_mb c_dp c_un c_gd c_cn c_cs c_a c_ccd c_cl c_outer c_A₀ c_base c_h₀ c_L c_m c_s c_Q c_E c_tl c_x c_xd c_wl c_tg c_t1 c_t2 c_tc c_n c_vs c_q c_g c_c
  intros prog w p loose mean mg mb dp un gd cn cs a ccd cl outer A₀ base h₀ L m s Q E tl x xd wl tg t1 t2 tc n vs q g c
  intros B F X T hk N hq hnd s1 s2 hlen hz hz2 hdp hun ret
  simp only [List.nodup_cons, List.mem_cons, List.not_mem_nil, or_false, not_or, List.nodup_nil, and_true, not_false_eq_true] at hnd
  obtain ⟨⟨d1, d2⟩, d3⟩ := hnd
  walk_at "MINE enter"
  k_steps
  all_goals ((with_reducible rename News h₀ L _ _ => kN9); (try simp only [List.push_toArray] at kN9))
  all_goals first | (refine' ret _ _ _ _ ?f (news_sub ?n ?s) ?_; (case f => k_asm); (case n => k_asm); (case s => walk_at "MINE sub"); (all_goals first | k_asm | k_all | k_ne)) | (exfalso; omega) | (exfalso; simp_all; done)
theorem W_add_pos_a : ∀ x, W_add_pos_P x := pk_all e_18 W_add_pos_c
theorem e_19 : cc = k_19 := pk_next e_18 W_add_pos_a
theorem W_add_pos {prog w p loose mean mg mb dp un gd cn cs a ccd cl outer A₀ base h₀ L m s Q E tl x xd wl tg t1 t2 tc n vs q g c} : W_add_pos_S prog w p loose mean mg mb dp un gd cn cs a ccd cl outer A₀ base h₀ L m s Q E tl x xd wl tg t1 t2 tc n vs q g c :=
  W_add_pos_a (prog, w, p, loose, mean, mg, mb, dp, un, gd, cn, cs, a, ccd, cl, outer, A₀, base, h₀, L, m, s, Q, E, tl, tg, t1, t2, g, c_k, wl, c_many, c_pg, c_sd, c_ta, c_t3, c_osd, c_tm, c_tw, c_t4, c_t5, c_al, c_gl, n, vs, x, xd, q, c_pd, c_hl, c_dc, c_t6, c_nt, c_n1, c_n3, c_cnt, c_hs, c_ws, c_held, c_rows, c_oc, c_TT, c_z, c_fr, c_st, c_word, c_pl, tc, c, cc.2.2.2.2.2.2.2.2.2.2.2.2.2.2.2.2.2.2.2.2.2.2.2.2.2.2.2.2.2.2.2.2.2.2.2.2.2.2.2.2.2.2.2.2.2.2.2.2.2.2.2.2.2.2.2.2.2.2.2.2.2.2.2.2.2.2.2.2.2)
theorem W_add_zero_c : W_add_zero_S c_prog c_w c_p c_loose c_mean c_mg c_mb c_dp c_un c_gd c_cn c_cs c_a c_ccd c_cl c_outer c_A₀ c_base c_h₀ c_L c_m c_s c_Q c_E c_tl c_x c_xd c_wl c_tg c_t1 c_t2 c_tc c_n c_vs c_q c_g c_c := by
  refine' (?g : ∀ prog w p loose mean mg mb dp un gd cn cs a ccd cl outer A₀ base h₀ L m s Q E tl x xd wl tg t1 t2 tc n vs q g c, W_add_zero_S prog w p loose mean mg mb dp un gd cn cs a ccd cl outer A₀ base h₀ L m s Q E tl x xd wl tg t1 t2 tc n vs q g c) c_prog c_w c_p c_loose c_mean c_mg c_mb c_dp c_un c_gd c_cn c_cs c_a c_ccd c_cl c_outer c_A₀ c_base c_h₀ c_L c_m c_s c_Q c_E c_tl c_x c_xd c_wl c_tg c_t1 c_t2 c_tc c_n c_vs c_q c_g c_c
  intros prog w p loose mean mg mb dp un gd cn cs a ccd cl outer A₀ base h₀ L m s Q E tl x xd wl tg t1 t2 tc n vs q g c
  intros B F X T hk N hq hnd s1 s2 hlen hz hz2 hdp hun ret
  simp only [List.nodup_cons, List.mem_cons, List.not_mem_nil, or_false, not_or, List.nodup_nil, and_true, not_false_eq_true] at hnd
  obtain ⟨⟨d1, d2⟩, d3⟩ := hnd
  walk_at "MINE enter"
  k_steps
  all_goals ((with_reducible rename News h₀ L _ _ => kN9); (try simp only [List.push_toArray] at kN9))
  all_goals first | (refine' ret _ _ _ _ ?f (news_sub ?n ?s) ?_; (case f => k_asm); (case n => k_asm); (case s => walk_at "MINE sub"); (all_goals first | k_asm | k_all | k_ne)) | (exfalso; omega) | (exfalso; simp_all; done)
theorem W_add_zero_a : ∀ x, W_add_zero_P x := pk_all e_19 W_add_zero_c
theorem e_20 : cc = k_20 := pk_next e_19 W_add_zero_a
theorem W_add_zero {prog w p loose mean mg mb dp un gd cn cs a ccd cl outer A₀ base h₀ L m s Q E tl x xd wl tg t1 t2 tc n vs q g c} : W_add_zero_S prog w p loose mean mg mb dp un gd cn cs a ccd cl outer A₀ base h₀ L m s Q E tl x xd wl tg t1 t2 tc n vs q g c :=
  W_add_zero_a (prog, w, p, loose, mean, mg, mb, dp, un, gd, cn, cs, a, ccd, cl, outer, A₀, base, h₀, L, m, s, Q, E, tl, tg, t1, t2, g, c_k, wl, c_many, c_pg, c_sd, c_ta, c_t3, c_osd, c_tm, c_tw, c_t4, c_t5, c_al, c_gl, n, vs, x, xd, q, c_pd, c_hl, c_dc, c_t6, c_nt, c_n1, c_n3, c_cnt, c_hs, c_ws, c_held, c_rows, c_oc, c_TT, c_z, c_fr, c_st, c_word, c_pl, tc, c, cc.2.2.2.2.2.2.2.2.2.2.2.2.2.2.2.2.2.2.2.2.2.2.2.2.2.2.2.2.2.2.2.2.2.2.2.2.2.2.2.2.2.2.2.2.2.2.2.2.2.2.2.2.2.2.2.2.2.2.2.2.2.2.2.2.2.2.2.2.2)
theorem W_wait_zero_c : W_wait_zero_S c_prog c_w c_p c_loose c_mean c_mg c_mb c_dp c_un c_gd c_cn c_cs c_a c_ccd c_cl c_outer c_A₀ c_base c_h₀ c_L c_m c_s c_Q c_E c_tl c_x c_xd c_wl c_tg c_t1 c_t2 c_tc c_n c_vs c_q c_g c_c := by
  refine' (?g : ∀ prog w p loose mean mg mb dp un gd cn cs a ccd cl outer A₀ base h₀ L m s Q E tl x xd wl tg t1 t2 tc n vs q g c, W_wait_zero_S prog w p loose mean mg mb dp un gd cn cs a ccd cl outer A₀ base h₀ L m s Q E tl x xd wl tg t1 t2 tc n vs q g c) c_prog c_w c_p c_loose c_mean c_mg c_mb c_dp c_un c_gd c_cn c_cs c_a c_ccd c_cl c_outer c_A₀ c_base c_h₀ c_L c_m c_s c_Q c_E c_tl c_x c_xd c_wl c_tg c_t1 c_t2 c_tc c_n c_vs c_q c_g c_c
  intros prog w p loose mean mg mb dp un gd cn cs a ccd cl outer A₀ base h₀ L m s Q E tl x xd wl tg t1 t2 tc n vs q g c
  intros B F X T hk N hq hnd s1 s2 hlen hz hdp hun ret
  simp only [List.nodup_cons, List.mem_cons, List.not_mem_nil, or_false, not_or, List.nodup_nil, and_true, not_false_eq_true] at hnd
  obtain ⟨⟨d1, d2⟩, d3⟩ := hnd
  walk_at "MINE enter"
  k_steps
  all_goals ((with_reducible rename News h₀ L _ _ => kN9); (try simp only [List.push_toArray] at kN9))
  all_goals first | (refine' ret _ _ ?f (news_sub ?n ?s); (case f => k_asm); (case n => k_asm); (case s => walk_at "MINE sub"); (all_goals first | k_asm | k_all | k_ne)) | (exfalso; omega) | (exfalso; simp_all; done)
theorem W_wait_zero_a : ∀ x, W_wait_zero_P x := pk_all e_20 W_wait_zero_c
theorem e_21 : cc = k_21 := pk_next e_20 W_wait_zero_a
theorem W_wait_zero {prog w p loose mean mg mb dp un gd cn cs a ccd cl outer A₀ base h₀ L m s Q E tl x xd wl tg t1 t2 tc n vs q g c} : W_wait_zero_S prog w p loose mean mg mb dp un gd cn cs a ccd cl outer A₀ base h₀ L m s Q E tl x xd wl tg t1 t2 tc n vs q g c :=
  W_wait_zero_a (prog, w, p, loose, mean, mg, mb, dp, un, gd, cn, cs, a, ccd, cl, outer, A₀, base, h₀, L, m, s, Q, E, tl, tg, t1, t2, g, c_k, wl, c_many, c_pg, c_sd, c_ta, c_t3, c_osd, c_tm, c_tw, c_t4, c_t5, c_al, c_gl, n, vs, x, xd, q, c_pd, c_hl, c_dc, c_t6, c_nt, c_n1, c_n3, c_cnt, c_hs, c_ws, c_held, c_rows, c_oc, c_TT, c_z, c_fr, c_st, c_word, c_pl, tc, c, cc.2.2.2.2.2.2.2.2.2.2.2.2.2.2.2.2.2.2.2.2.2.2.2.2.2.2.2.2.2.2.2.2.2.2.2.2.2.2.2.2.2.2.2.2.2.2.2.2.2.2.2.2.2.2.2.2.2.2.2.2.2.2.2.2.2.2.2.2.2)
theorem W_wait_non_c : W_wait_non_S c_prog c_w c_p c_loose c_mean c_mg c_mb c_dp c_un c_gd c_cn c_cs c_a c_ccd c_cl c_outer c_A₀ c_base c_h₀ c_L c_m c_s c_Q c_E c_tl c_x c_xd c_wl c_tg c_t1 c_t2 c_tc c_n c_vs c_q c_g c_c := by
  refine' (?g : ∀ prog w p loose mean mg mb dp un gd cn cs a ccd cl outer A₀ base h₀ L m s Q E tl x xd wl tg t1 t2 tc n vs q g c, W_wait_non_S prog w p loose mean mg mb dp un gd cn cs a ccd cl outer A₀ base h₀ L m s Q E tl x xd wl tg t1 t2 tc n vs q g c) c_prog c_w c_p c_loose c_mean c_mg c_mb c_dp c_un c_gd c_cn c_cs c_a c_ccd c_cl c_outer c_A₀ c_base c_h₀ c_L c_m c_s c_Q c_E c_tl c_x c_xd c_wl c_tg c_t1 c_t2 c_tc c_n c_vs c_q c_g c_c
  intros prog w p loose mean mg mb dp un gd cn cs a ccd cl outer A₀ base h₀ L m s Q E tl x xd wl tg t1 t2 tc n vs q g c
  intros B F X T hk N hq hnd s1 s2 hlen hz hdp hun ret
  simp only [List.nodup_cons, List.mem_cons, List.not_mem_nil, or_false, not_or, List.nodup_nil, and_true, not_false_eq_true] at hnd
  obtain ⟨⟨d1, d2⟩, d3⟩ := hnd
  walk_at "MINE enter"
  k_steps
  all_goals ((with_reducible rename News h₀ L _ _ => kN9); (try simp only [List.push_toArray] at kN9))
  all_goals first | (refine' ret _ _ ?f (news_sub ?n ?s); (case f => k_asm); (case n => k_asm); (case s => walk_at "MINE sub"); (all_goals first | k_asm | k_all | k_ne)) | (exfalso; omega) | (exfalso; simp_all; done)
theorem W_wait_non_a : ∀ x, W_wait_non_P x := pk_all e_21 W_wait_non_c
theorem e_22 : cc = k_22 := pk_next e_21 W_wait_non_a
theorem W_wait_non {prog w p loose mean mg mb dp un gd cn cs a ccd cl outer A₀ base h₀ L m s Q E tl x xd wl tg t1 t2 tc n vs q g c} : W_wait_non_S prog w p loose mean mg mb dp un gd cn cs a ccd cl outer A₀ base h₀ L m s Q E tl x xd wl tg t1 t2 tc n vs q g c :=
  W_wait_non_a (prog, w, p, loose, mean, mg, mb, dp, un, gd, cn, cs, a, ccd, cl, outer, A₀, base, h₀, L, m, s, Q, E, tl, tg, t1, t2, g, c_k, wl, c_many, c_pg, c_sd, c_ta, c_t3, c_osd, c_tm, c_tw, c_t4, c_t5, c_al, c_gl, n, vs, x, xd, q, c_pd, c_hl, c_dc, c_t6, c_nt, c_n1, c_n3, c_cnt, c_hs, c_ws, c_held, c_rows, c_oc, c_TT, c_z, c_fr, c_st, c_word, c_pl, tc, c, cc.2.2.2.2.2.2.2.2.2.2.2.2.2.2.2.2.2.2.2.2.2.2.2.2.2.2.2.2.2.2.2.2.2.2.2.2.2.2.2.2.2.2.2.2.2.2.2.2.2.2.2.2.2.2.2.2.2.2.2.2.2.2.2.2.2.2.2.2.2)
end
-- PC3
section
local macro_rules | `(tactic| walk_at $k:str) => mtRun [] k.getString
local macro_rules | `(tactic| walk_at $k:str) => mtRun [
  ("MINE lread", "F6 Kk_asm E aLRead.int E aLRead.str S3 R @2 aLRead.more ?a ?s C a Kk_asm C s WMINE~sub S3 R @2 aLRead.tuple ?x ?m C m Kk_mem C x WMINE~lreads X"),
  ("MINE lreads", "F3 F3 S3 R @2 aLReads.snoc ?a ?b C a WMINE~lreads C b WMINE~lread S2 R @2 aLReads.eraseM _ ?a C a WMINE~lreads X F5 Kk_asm E aLReads.nil S3 R @2 aLReads.more ?a ?s C a Kk_asm C s WMINE~sub S3 R @2 aLReads.cons ?a ?b C a WMINE~lread C b WMINE~lreads X X"),
  ("MINE rows", "F3 F3 S3 R @2 aRowsIn.snoc ?a ?b C a WMINE~rows C b WMINE~row S2 R @2 aRowsIn.erase _ ?a C a WMINE~rows X F3 Kk_asm S3 R @2 aRowsIn.more ?a ?s C a Kk_asm C s WMINE~sub X X"),
  ("MINE row", "F4 Kk_asm S3 R @2 aRowIn.more ?a ?s C a Kk_asm C s WMINE~sub S3 R <7 _ _ _ _ arfl ?m ?x C m Kk_mem C x WMINE~lread X"),
  ("MINE tups", "F4 Kk_asm E @1 aList.forall_mem_nil _ S2 R @1 aList.forall_mem_cons.mpr <2 arfl ?b C b WMINE~tups X"),
  ("MINE seps", "F3 E @1 aList.forall_mem_nil _ S3 R @1 aList.forall_mem_cons.mpr <2 ?a ?b C a Kk_all C b WMINE~seps X"),
  ("MINE tabo", "F3 Kk_asm S3 R @2 aTabO.more ?a ?s C a Kk_asm C s WMINE~sub X"),
  ("MINE pull", "F3 E aPull.hit S2 R @1 aPull.keep ?b C b WMINE~pull X"),
  ("MINE nes", "F3 E @1 aList.forall_mem_nil _ S3 R @1 aList.forall_mem_cons.mpr <2 ?a ?b C a Kk_ne C b WMINE~nes X"),
  ("MINE new", "S3 R @2 aAnd.intro ?a ?b C a WMINE~nes C b Kk_all"),
  ("MINE newor", "F4 E @1 aOr.inl arfl E @1 aOr.inl ( y H Kassumption S2 R @1 aOr.inr ?a C a WMINE~new X"),
  ("MINE exs", "F4 E @1 aList.forall_mem_nil _ E l2 p hp @1 aOr.inl vhp S3 R @1 aList.forall_mem_cons.mpr <2 ?a ?b C a S2 R @1 aOr.inr ?c C c WMINE~new C b WMINE~exs X"),
  ("MINE nodup", "F3 H Kassumption S2 s8 List.nodup_cons List.mem_cons List.not_mem_nil or_false not_or List.nodup_nil and_true not_false_eq_true 0 Z P' A aAnd.intro Kk_ne X")] k.getString
theorem L_lock_free_c : L_lock_free_S c_prog c_w c_p c_loose c_mean c_mg c_mb c_dp c_un c_gd c_cn c_cs c_a c_ccd c_cl c_outer c_A₀ c_base c_h₀ c_L c_m c_s c_Q c_E c_tl c_sd c_pg c_pd c_hl c_dc c_wl c_tg c_ta c_tm c_tw c_t1 c_t2 c_t3 c_t4 c_t5 c_t6 c_nt c_n1 c_n3 c_cnt c_hs c_ws c_held c_rows c_g c_k c_many c_oc c_osd c_gl_ c_al c_TT := by
  refine' (?g : ∀ prog w p loose mean mg mb dp un gd cn cs a ccd cl outer A₀ base h₀ L m s Q E tl sd pg pd hl dc wl tg ta tm tw t1 t2 t3 t4 t5 t6 nt n1 n3 cnt hs ws held rows g k many oc osd gl al TT, L_lock_free_S prog w p loose mean mg mb dp un gd cn cs a ccd cl outer A₀ base h₀ L m s Q E tl sd pg pd hl dc wl tg ta tm tw t1 t2 t3 t4 t5 t6 nt n1 n3 cnt hs ws held rows g k many oc osd gl al TT) c_prog c_w c_p c_loose c_mean c_mg c_mb c_dp c_un c_gd c_cn c_cs c_a c_ccd c_cl c_outer c_A₀ c_base c_h₀ c_L c_m c_s c_Q c_E c_tl c_sd c_pg c_pd c_hl c_dc c_wl c_tg c_ta c_tm c_tw c_t1 c_t2 c_t3 c_t4 c_t5 c_t6 c_nt c_n1 c_n3 c_cnt c_hs c_ws c_held c_rows c_g c_k c_many c_oc c_osd c_gl_ c_al c_TT
  intros prog w p loose mean mg mb dp un gd cn cs a ccd cl outer A₀ base h₀ L m s Q E tl sd pg pd hl dc wl tg ta tm tw t1 t2 t3 t4 t5 t6 nt n1 n3 cnt hs ws held rows g k many oc osd gl al TT
  intros B F X T hk N hsd hhs hws hoc hT htt lo hnd hsep hlen hlen2 hnt hmem hdp hun ret
  simp only [List.forall_mem_cons] at hsep
  obtain ⟨s0, s5, s4, s1, s3, s2, _⟩ := hsep
  have hnd5 : [pg, pd, hl, dc, wl].Nodup := (List.nodup_cons.mp hnd).2
  simp only [List.nodup_cons, List.mem_cons, List.not_mem_nil, or_false, not_or, List.nodup_nil, and_true, not_false_eq_true] at hnd
  obtain ⟨⟨e1, e2, e3, e4, e5⟩, ⟨d1, d2, d3, d4⟩, ⟨d5, d6, d7⟩, ⟨d8, d9⟩, d10⟩ := hnd
  walk_at "MINE enter"
  (repeat ((fail_if_success (with_reducible show wpAny _ _ (call (Value.ref 102) _) _ _ _)); first | (k_unfold; (try dsimp only)) | walk1 | (dsimp only; walk1) | (leave1; walk_say "STEP leave1"; (try dsimp only))))
  k_dflt (refine' P_lock_free (TT := (_, { cls := .type "tuple", data := .seq #[.str "cell" _, .int _ _, .ref _] }) :: (_, { cls := .type "tuple", data := .seq #[] }) :: _) ?B ?F ?X ?T ?hk (pulls5 ?N ?t1 ?t2 ?t3 ?t4 ?t5) ?pl ?hs ?ws ?oc ?hT ?lo ?nd ?s1 ?s2 ?s3 ?s4 ?l1 ?l2 ?nt ?h0 ?dp ?un ?_)
  case h0 => k_asm
  case B => k_asm
  case F => k_asm
  case X => k_asm
  case T => k_asm
  case hk => exact rfl
  case N => k_asm
  case t1 => walk_at "MINE pull"
  case t2 => walk_at "MINE pull"
  case t3 => walk_at "MINE pull"
  case t4 => walk_at "MINE pull"
  case t5 => walk_at "MINE pull"
  case hs => walk_at "MINE lreads"
  case ws => walk_at "MINE rows"
  case oc => walk_at "MINE tabo"
  case hT => walk_at "MINE sub"
  case pl => exact lread_place
  case lo => k_asm
  case nd => walk_at "MINE nodup"
  case s1 => k_all
  case s2 => k_all
  case s3 => k_all
  case s4 => k_all
  case l1 => k_asm
  case l2 => k_asm
  case nt => k_asm
  case dp => ((try dsimp only [ktrTop, Around.deeper]); omega)
  case un => ((try dsimp only [ktrTop, Around.deeper]); omega)
  intro h' tk' F' N' rf'
  (try k_sweep)
  k_steps
  refine' ret _ _ _ _ _ _ _ _ _ _ _ _ _ _ ?f (news_sub ?n ?s) ?rw ?hs ?tb ?xx ?nn (news_sub ?n2 ?s2) ?tt ?us ?nl ?nr ?lr ?nw ?wl ?wr ?nx
  case f => k_asm
  case n => k_asm
  case s => walk_at "MINE sub"
  case hs => walk_at "MINE lreads"
  case rw => walk_at "MINE rows"
  case tb => walk_at "MINE tabo"
  case xx => walk_at "MINE sub"
  case nn => omega
  case n2 => k_asm
  case s2 => walk_at "MINE sub"
  case tt => walk_at "MINE tups"
  case us => walk_at "MINE lreads"
  case nl => walk_at "MINE new"
  case nr => walk_at "MINE new"
  case lr => k_ne
  case nw => walk_at "MINE newor"
  case wl => k_ne
  case wr => k_ne
  case nx => walk_at "MINE exs"
theorem L_lock_free_a : ∀ x, L_lock_free_P x := pk_all e_22 L_lock_free_c
theorem e_23 : cc = k_23 := pk_next e_22 L_lock_free_a
theorem L_lock_free {prog w p loose mean mg mb dp un gd cn cs a ccd cl outer A₀ base h₀ L m s Q E tl sd pg pd hl dc wl tg ta tm tw t1 t2 t3 t4 t5 t6 nt n1 n3 cnt hs ws held rows g k many oc osd gl al TT} : L_lock_free_S prog w p loose mean mg mb dp un gd cn cs a ccd cl outer A₀ base h₀ L m s Q E tl sd pg pd hl dc wl tg ta tm tw t1 t2 t3 t4 t5 t6 nt n1 n3 cnt hs ws held rows g k many oc osd gl al TT :=
  L_lock_free_a (prog, w, p, loose, mean, mg, mb, dp, un, gd, cn, cs, a, ccd, cl, outer, A₀, base, h₀, L, m, s, Q, E, tl, tg, t1, t2, g, k, wl, many, pg, sd, ta, t3, osd, tm, tw, t4, t5, al, c_gl, c_n, c_vs, c_x, c_xd, c_q, pd, hl, dc, t6, nt, n1, n3, cnt, hs, ws, held, rows, oc, TT, c_z, c_fr, c_st, c_word, c_pl, c_tc, c_c, gl, cc.2.2.2.2.2.2.2.2.2.2.2.2.2.2.2.2.2.2.2.2.2.2.2.2.2.2.2.2.2.2.2.2.2.2.2.2.2.2.2.2.2.2.2.2.2.2.2.2.2.2.2.2.2.2.2.2.2.2.2.2.2.2.2.2.2.2.2.2.2.2)
theorem L_lock_held_c : L_lock_held_S c_prog c_w c_p c_loose c_mean c_mg c_mb c_dp c_un c_gd c_cn c_cs c_a c_ccd c_cl c_outer c_A₀ c_base c_h₀ c_L c_m c_s c_Q c_E c_tl c_sd c_pg c_pd c_hl c_dc c_wl c_tg c_ta c_tm c_tw c_t1 c_t2 c_t3 c_t4 c_t5 c_t6 c_nt c_n1 c_n3 c_cnt c_hs c_ws c_held c_rows c_g c_k c_many c_oc c_osd c_gl_ c_al c_TT := by
  refine' (?g : ∀ prog w p loose mean mg mb dp un gd cn cs a ccd cl outer A₀ base h₀ L m s Q E tl sd pg pd hl dc wl tg ta tm tw t1 t2 t3 t4 t5 t6 nt n1 n3 cnt hs ws held rows g k many oc osd gl al TT, L_lock_held_S prog w p loose mean mg mb dp un gd cn cs a ccd cl outer A₀ base h₀ L m s Q E tl sd pg pd hl dc wl tg ta tm tw t1 t2 t3 t4 t5 t6 nt n1 n3 cnt hs ws held rows g k many oc osd gl al TT) c_prog c_w c_p c_loose c_mean c_mg c_mb c_dp c_un c_gd c_cn c_cs c_a c_ccd c_cl c_outer c_A₀ c_base c_h₀ c_L c_m c_s c_Q c_E c_tl c_sd c_pg c_pd c_hl c_dc c_wl c_tg c_ta c_tm c_tw c_t1 c_t2 c_t3 c_t4 c_t5 c_t6 c_nt c_n1 c_n3 c_cnt c_hs c_ws c_held c_rows c_g c_k c_many c_oc c_osd c_gl_ c_al c_TT
  intros prog w p loose mean mg mb dp un gd cn cs a ccd cl outer A₀ base h₀ L m s Q E tl sd pg pd hl dc wl tg ta tm tw t1 t2 t3 t4 t5 t6 nt n1 n3 cnt hs ws held rows g k many oc osd gl al TT
  intros B F X T hk N hsd hhs hws hoc hT htt lo hnd hsep hlen hlen2 hnt hmem hdp hun ret
  simp only [List.forall_mem_cons] at hsep
  obtain ⟨s0, s5, s4, s1, s3, s2, _⟩ := hsep
  have hnd5 : [pg, pd, hl, dc, wl].Nodup := (List.nodup_cons.mp hnd).2
  simp only [List.nodup_cons, List.mem_cons, List.not_mem_nil, or_false, not_or, List.nodup_nil, and_true, not_false_eq_true] at hnd
  obtain ⟨⟨e1, e2, e3, e4, e5⟩, ⟨d1, d2, d3, d4⟩, ⟨d5, d6, d7⟩, ⟨d8, d9⟩, d10⟩ := hnd
  walk_at "MINE enter"
  (repeat ((fail_if_success (with_reducible show wpAny _ _ (call (Value.ref 102) _) _ _ _)); first | (k_unfold; (try dsimp only)) | walk1 | (dsimp only; walk1) | (leave1; walk_say "STEP leave1"; (try dsimp only))))
  k_dflt (refine' P_lock_held (TT := (_, { cls := .type "tuple", data := .seq #[.str "cell" _, .int _ _, .ref _] }) :: (_, { cls := .type "tuple", data := .seq #[] }) :: _) ?B ?F ?X ?T ?hk (pulls5 ?N ?t1 ?t2 ?t3 ?t4 ?t5) ?pl ?hs ?ws ?oc ?hT ?lo ?nd ?s1 ?s2 ?s3 ?s4 ?l1 ?l2 ?nt ?h0 ?dp ?un ?_)
  case h0 => k_asm
  case B => k_asm
  case F => k_asm
  case X => k_asm
  case T => k_asm
  case hk => exact rfl
  case N => k_asm
  case t1 => walk_at "MINE pull"
  case t2 => walk_at "MINE pull"
  case t3 => walk_at "MINE pull"
  case t4 => walk_at "MINE pull"
  case t5 => walk_at "MINE pull"
  case hs => walk_at "MINE lreads"
  case ws => walk_at "MINE rows"
  case oc => walk_at "MINE tabo"
  case hT => walk_at "MINE sub"
  case pl => exact lread_place
  case lo => k_asm
  case nd => walk_at "MINE nodup"
  case s1 => k_all
  case s2 => k_all
  case s3 => k_all
  case s4 => k_all
  case l1 => k_asm
  case l2 => k_asm
  case nt => k_asm
  case dp => ((try dsimp only [ktrTop, Around.deeper]); omega)
  case un => ((try dsimp only [ktrTop, Around.deeper]); omega)
  intro h' tk' R' F' N' fr' rf'
  (try k_sweep)
  k_steps
  refine' ret _ _ _ _ _ _ _ _ _ _ _ _ _ _ ?f (news_sub ?n ?s) ?rw ?hs ?tb ?xx ?nn (news_sub ?n2 ?s2) ?tt ?us ?nl ?nr ?lr ?nw ?wl ?wr ?nx
  case f => k_asm
  case n => k_asm
  case s => walk_at "MINE sub"
  case rw => walk_at "MINE rows"
  case hs => walk_at "MINE lreads"
  case tb => walk_at "MINE tabo"
  case xx => walk_at "MINE sub"
  case nn => omega
  case n2 => k_asm
  case s2 => walk_at "MINE sub"
  case tt => walk_at "MINE tups"
  case us => walk_at "MINE lreads"
  case nl => walk_at "MINE new"
  case nr => walk_at "MINE new"
  case lr => k_ne
  case nw => walk_at "MINE newor"
  case wl => k_ne
  case wr => k_ne
  case nx => walk_at "MINE exs"
theorem L_lock_held_a : ∀ x, L_lock_held_P x := pk_all e_23 L_lock_held_c
theorem e_24 : cc = k_24 := pk_next e_23 L_lock_held_a
theorem L_lock_held {prog w p loose mean mg mb dp un gd cn cs a ccd cl outer A₀ base h₀ L m s Q E tl sd pg pd hl dc wl tg ta tm tw t1 t2 t3 t4 t5 t6 nt n1 n3 cnt hs ws held rows g k many oc osd gl al TT} : L_lock_held_S prog w p loose mean mg mb dp un gd cn cs a ccd cl outer A₀ base h₀ L m s Q E tl sd pg pd hl dc wl tg ta tm tw t1 t2 t3 t4 t5 t6 nt n1 n3 cnt hs ws held rows g k many oc osd gl al TT :=
  L_lock_held_a (prog, w, p, loose, mean, mg, mb, dp, un, gd, cn, cs, a, ccd, cl, outer, A₀, base, h₀, L, m, s, Q, E, tl, tg, t1, t2, g, k, wl, many, pg, sd, ta, t3, osd, tm, tw, t4, t5, al, c_gl, c_n, c_vs, c_x, c_xd, c_q, pd, hl, dc, t6, nt, n1, n3, cnt, hs, ws, held, rows, oc, TT, c_z, c_fr, c_st, c_word, c_pl, c_tc, c_c, gl, cc.2.2.2.2.2.2.2.2.2.2.2.2.2.2.2.2.2.2.2.2.2.2.2.2.2.2.2.2.2.2.2.2.2.2.2.2.2.2.2.2.2.2.2.2.2.2.2.2.2.2.2.2.2.2.2.2.2.2.2.2.2.2.2.2.2.2.2.2.2.2)
theorem L_wait_zero_c : L_wait_zero_S c_prog c_w c_p c_loose c_mean c_mg c_mb c_dp c_un c_gd c_cn c_cs c_a c_ccd c_cl c_outer c_A₀ c_base c_h₀ c_L c_m c_s c_Q c_E c_tl c_sd c_pg c_pd c_hl c_dc c_wl c_tg c_ta c_tm c_tw c_t1 c_t2 c_t3 c_t4 c_t5 c_t6 c_nt c_n1 c_n3 c_cnt c_hs c_ws c_held c_rows c_g c_k c_many c_oc c_osd c_gl_ c_al c_TT := by
  refine' (?g : ∀ prog w p loose mean mg mb dp un gd cn cs a ccd cl outer A₀ base h₀ L m s Q E tl sd pg pd hl dc wl tg ta tm tw t1 t2 t3 t4 t5 t6 nt n1 n3 cnt hs ws held rows g k many oc osd gl al TT, L_wait_zero_S prog w p loose mean mg mb dp un gd cn cs a ccd cl outer A₀ base h₀ L m s Q E tl sd pg pd hl dc wl tg ta tm tw t1 t2 t3 t4 t5 t6 nt n1 n3 cnt hs ws held rows g k many oc osd gl al TT) c_prog c_w c_p c_loose c_mean c_mg c_mb c_dp c_un c_gd c_cn c_cs c_a c_ccd c_cl c_outer c_A₀ c_base c_h₀ c_L c_m c_s c_Q c_E c_tl c_sd c_pg c_pd c_hl c_dc c_wl c_tg c_ta c_tm c_tw c_t1 c_t2 c_t3 c_t4 c_t5 c_t6 c_nt c_n1 c_n3 c_cnt c_hs c_ws c_held c_rows c_g c_k c_many c_oc c_osd c_gl_ c_al c_TT
  intros prog w p loose mean mg mb dp un gd cn cs a ccd cl outer A₀ base h₀ L m s Q E tl sd pg pd hl dc wl tg ta tm tw t1 t2 t3 t4 t5 t6 nt n1 n3 cnt hs ws held rows g k many oc osd gl al TT
  intros B F X T hk N hsd hhs hws hoc hT htt lo hnd hsep hlen hlen2 hnt hz hdp hun ret
  simp only [List.forall_mem_cons] at hsep
  obtain ⟨s0, s5, s4, s1, s3, s2, _⟩ := hsep
  have hnd5 : [pg, pd, hl, dc, wl].Nodup := (List.nodup_cons.mp hnd).2
  simp only [List.nodup_cons, List.mem_cons, List.not_mem_nil, or_false, not_or, List.nodup_nil, and_true, not_false_eq_true] at hnd
  obtain ⟨⟨e1, e2, e3, e4, e5⟩, ⟨d1, d2, d3, d4⟩, ⟨d5, d6, d7⟩, ⟨d8, d9⟩, d10⟩ := hnd
  walk_at "MINE enter"
  (repeat ((fail_if_success (with_reducible show wpAny _ _ (call (Value.ref 121) _) _ _ _)); first | (k_unfold; (try dsimp only)) | walk1 | (dsimp only; walk1) | (leave1; walk_say "STEP leave1"; (try dsimp only))))
  k_dflt (refine' P_wait_zero (TT := (_, { cls := .type "tuple", data := .seq #[.str "cell" _, .int _ _, .ref _] }) :: (_, { cls := .type "tuple", data := .seq #[] }) :: _) ?B ?F ?X ?T ?hk (pulls5 ?N ?t1 ?t2 ?t3 ?t4 ?t5) ?pl ?hs ?ws ?oc ?hT ?lo ?nd ?s1 ?s2 ?s3 ?s4 ?l1 ?l2 ?nt ?h0 ?dp ?un ?_)
  case h0 => k_asm
  case B => k_asm
  case F => k_asm
  case X => k_asm
  case T => k_asm
  case hk => exact rfl
  case N => k_asm
  case t1 => walk_at "MINE pull"
  case t2 => walk_at "MINE pull"
  case t3 => walk_at "MINE pull"
  case t4 => walk_at "MINE pull"
  case t5 => walk_at "MINE pull"
  case hs => walk_at "MINE lreads"
  case ws => walk_at "MINE rows"
  case oc => walk_at "MINE tabo"
  case hT => walk_at "MINE sub"
  case pl => exact lread_place
  case lo => k_asm
  case nd => walk_at "MINE nodup"
  case s1 => k_all
  case s2 => k_all
  case s3 => k_all
  case s4 => k_all
  case l1 => k_asm
  case l2 => k_asm
  case nt => k_asm
  case dp => ((try dsimp only [ktrTop, Around.deeper]); omega)
  case un => ((try dsimp only [ktrTop, Around.deeper]); omega)
  intro h' tk' F' N'
  (try k_sweep)
  k_steps
  refine' ret _ _ _ _ _ _ _ _ _ _ _ _ _ _ ?f (news_sub ?n ?s) ?rw ?hs ?tb ?xx ?nn (news_sub ?n2 ?s2) ?tt ?us ?nl ?nr ?lr ?nw ?wl ?wr ?nx
  case f => k_asm
  case n => k_asm
  case s => walk_at "MINE sub"
  case rw => walk_at "MINE rows"
  case hs => walk_at "MINE lreads"
  case tb => walk_at "MINE tabo"
  case xx => walk_at "MINE sub"
  case nn => omega
  case n2 => k_asm
  case s2 => walk_at "MINE sub"
  case tt => walk_at "MINE tups"
  case us => walk_at "MINE lreads"
  case nl => walk_at "MINE new"
  case nr => walk_at "MINE new"
  case lr => k_ne
  case nw => walk_at "MINE newor"
  case wl => k_ne
  case wr => k_ne
  case nx => walk_at "MINE exs"
theorem L_wait_zero_a : ∀ x, L_wait_zero_P x := pk_all e_24 L_wait_zero_c
theorem e_25 : cc = k_25 := pk_next e_24 L_wait_zero_a
theorem L_wait_zero {prog w p loose mean mg mb dp un gd cn cs a ccd cl outer A₀ base h₀ L m s Q E tl sd pg pd hl dc wl tg ta tm tw t1 t2 t3 t4 t5 t6 nt n1 n3 cnt hs ws held rows g k many oc osd gl al TT} : L_wait_zero_S prog w p loose mean mg mb dp un gd cn cs a ccd cl outer A₀ base h₀ L m s Q E tl sd pg pd hl dc wl tg ta tm tw t1 t2 t3 t4 t5 t6 nt n1 n3 cnt hs ws held rows g k many oc osd gl al TT :=
  L_wait_zero_a (prog, w, p, loose, mean, mg, mb, dp, un, gd, cn, cs, a, ccd, cl, outer, A₀, base, h₀, L, m, s, Q, E, tl, tg, t1, t2, g, k, wl, many, pg, sd, ta, t3, osd, tm, tw, t4, t5, al, c_gl, c_n, c_vs, c_x, c_xd, c_q, pd, hl, dc, t6, nt, n1, n3, cnt, hs, ws, held, rows, oc, TT, c_z, c_fr, c_st, c_word, c_pl, c_tc, c_c, gl, cc.2.2.2.2.2.2.2.2.2.2.2.2.2.2.2.2.2.2.2.2.2.2.2.2.2.2.2.2.2.2.2.2.2.2.2.2.2.2.2.2.2.2.2.2.2.2.2.2.2.2.2.2.2.2.2.2.2.2.2.2.2.2.2.2.2.2.2.2.2.2)
theorem L_wait_non_c : L_wait_non_S c_prog c_w c_p c_loose c_mean c_mg c_mb c_dp c_un c_gd c_cn c_cs c_a c_ccd c_cl c_outer c_A₀ c_base c_h₀ c_L c_m c_s c_Q c_E c_tl c_sd c_pg c_pd c_hl c_dc c_wl c_tg c_ta c_tm c_tw c_t1 c_t2 c_t3 c_t4 c_t5 c_t6 c_nt c_n1 c_n3 c_cnt c_hs c_ws c_held c_rows c_g c_k c_many c_oc c_osd c_gl_ c_al c_TT := by
  refine' (?g : ∀ prog w p loose mean mg mb dp un gd cn cs a ccd cl outer A₀ base h₀ L m s Q E tl sd pg pd hl dc wl tg ta tm tw t1 t2 t3 t4 t5 t6 nt n1 n3 cnt hs ws held rows g k many oc osd gl al TT, L_wait_non_S prog w p loose mean mg mb dp un gd cn cs a ccd cl outer A₀ base h₀ L m s Q E tl sd pg pd hl dc wl tg ta tm tw t1 t2 t3 t4 t5 t6 nt n1 n3 cnt hs ws held rows g k many oc osd gl al TT) c_prog c_w c_p c_loose c_mean c_mg c_mb c_dp c_un c_gd c_cn c_cs c_a c_ccd c_cl c_outer c_A₀ c_base c_h₀ c_L c_m c_s c_Q c_E c_tl c_sd c_pg c_pd c_hl c_dc c_wl c_tg c_ta c_tm c_tw c_t1 c_t2 c_t3 c_t4 c_t5 c_t6 c_nt c_n1 c_n3 c_cnt c_hs c_ws c_held c_rows c_g c_k c_many c_oc c_osd c_gl_ c_al c_TT
  intros prog w p loose mean mg mb dp un gd cn cs a ccd cl outer A₀ base h₀ L m s Q E tl sd pg pd hl dc wl tg ta tm tw t1 t2 t3 t4 t5 t6 nt n1 n3 cnt hs ws held rows g k many oc osd gl al TT
  intros B F X T hk N hsd hhs hws hoc hT htt lo hnd hsep hlen hlen2 hnt hz hdp hun ret
  simp only [List.forall_mem_cons] at hsep
  obtain ⟨s0, s5, s4, s1, s3, s2, _⟩ := hsep
  have hnd5 : [pg, pd, hl, dc, wl].Nodup := (List.nodup_cons.mp hnd).2
  simp only [List.nodup_cons, List.mem_cons, List.not_mem_nil, or_false, not_or, List.nodup_nil, and_true, not_false_eq_true] at hnd
  obtain ⟨⟨e1, e2, e3, e4, e5⟩, ⟨d1, d2, d3, d4⟩, ⟨d5, d6, d7⟩, ⟨d8, d9⟩, d10⟩ := hnd
  walk_at "MINE enter"
  (repeat ((fail_if_success (with_reducible show wpAny _ _ (call (Value.ref 121) _) _ _ _)); first | (k_unfold; (try dsimp only)) | walk1 | (dsimp only; walk1) | (leave1; walk_say "STEP leave1"; (try dsimp only))))
  k_dflt (refine' P_wait_non (TT := (_, { cls := .type "tuple", data := .seq #[.str "cell" _, .int _ _, .ref _] }) :: (_, { cls := .type "tuple", data := .seq #[] }) :: _) ?B ?F ?X ?T ?hk (pulls5 ?N ?t1 ?t2 ?t3 ?t4 ?t5) ?pl ?hs ?ws ?oc ?hT ?lo ?nd ?s1 ?s2 ?s3 ?s4 ?l1 ?l2 ?nt ?h0 ?dp ?un ?_)
  case h0 => k_asm
  case B => k_asm
  case F => k_asm
  case X => k_asm
  case T => k_asm
  case hk => exact rfl
  case N => k_asm
  case t1 => walk_at "MINE pull"
  case t2 => walk_at "MINE pull"
  case t3 => walk_at "MINE pull"
  case t4 => walk_at "MINE pull"
  case t5 => walk_at "MINE pull"
  case hs => walk_at "MINE lreads"
  case ws => walk_at "MINE rows"
  case oc => walk_at "MINE tabo"
  case hT => walk_at "MINE sub"
  case pl => exact lread_place
  case lo => k_asm
  case nd => walk_at "MINE nodup"
  case s1 => k_all
  case s2 => k_all
  case s3 => k_all
  case s4 => k_all
  case l1 => k_asm
  case l2 => k_asm
  case nt => k_asm
  case dp => ((try dsimp only [ktrTop, Around.deeper]); omega)
  case un => ((try dsimp only [ktrTop, Around.deeper]); omega)
  intro h' tk' R' F' N' fr' rf'
  (try k_sweep)
  k_steps
  refine' ret _ _ _ _ _ _ _ _ _ _ _ _ _ _ ?f (news_sub ?n ?s) ?rw ?hs ?tb ?xx ?nn (news_sub ?n2 ?s2) ?tt ?us ?nl ?nr ?lr ?nw ?wl ?wr ?nx
  case f => k_asm
  case n => k_asm
  case s => walk_at "MINE sub"
  case rw => walk_at "MINE rows"
  case hs => walk_at "MINE lreads"
  case tb => walk_at "MINE tabo"
  case xx => walk_at "MINE sub"
  case nn => omega
  case n2 => k_asm
  case s2 => walk_at "MINE sub"
  case tt => walk_at "MINE tups"
  case us => walk_at "MINE lreads"
  case nl => walk_at "MINE new"
  case nr => walk_at "MINE new"
  case lr => k_ne
  case nw => walk_at "MINE newor"
  case wl => k_ne
  case wr => k_ne
  case nx => walk_at "MINE exs"
theorem L_wait_non_a : ∀ x, L_wait_non_P x := pk_all e_25 L_wait_non_c
theorem e_26 : cc = k_26 := pk_next e_25 L_wait_non_a
theorem L_wait_non {prog w p loose mean mg mb dp un gd cn cs a ccd cl outer A₀ base h₀ L m s Q E tl sd pg pd hl dc wl tg ta tm tw t1 t2 t3 t4 t5 t6 nt n1 n3 cnt hs ws held rows g k many oc osd gl al TT} : L_wait_non_S prog w p loose mean mg mb dp un gd cn cs a ccd cl outer A₀ base h₀ L m s Q E tl sd pg pd hl dc wl tg ta tm tw t1 t2 t3 t4 t5 t6 nt n1 n3 cnt hs ws held rows g k many oc osd gl al TT :=
  L_wait_non_a (prog, w, p, loose, mean, mg, mb, dp, un, gd, cn, cs, a, ccd, cl, outer, A₀, base, h₀, L, m, s, Q, E, tl, tg, t1, t2, g, k, wl, many, pg, sd, ta, t3, osd, tm, tw, t4, t5, al, c_gl, c_n, c_vs, c_x, c_xd, c_q, pd, hl, dc, t6, nt, n1, n3, cnt, hs, ws, held, rows, oc, TT, c_z, c_fr, c_st, c_word, c_pl, c_tc, c_c, gl, cc.2.2.2.2.2.2.2.2.2.2.2.2.2.2.2.2.2.2.2.2.2.2.2.2.2.2.2.2.2.2.2.2.2.2.2.2.2.2.2.2.2.2.2.2.2.2.2.2.2.2.2.2.2.2.2.2.2.2.2.2.2.2.2.2.2.2.2.2.2.2)
theorem L_unl_bad_c : L_unl_bad_S c_prog c_w c_p c_loose c_mean c_mg c_mb c_dp c_un c_gd c_cn c_cs c_a c_ccd c_cl c_outer c_A₀ c_base c_h₀ c_L c_m c_s c_Q c_E c_tl c_sd c_pg c_pd c_hl c_dc c_wl c_tg c_ta c_tm c_tw c_t1 c_t2 c_t3 c_t4 c_t5 c_t6 c_nt c_n1 c_n3 c_cnt c_hs c_ws c_held c_rows c_g c_k c_many c_oc c_osd c_gl_ c_al c_TT := by
  refine' (?g : ∀ prog w p loose mean mg mb dp un gd cn cs a ccd cl outer A₀ base h₀ L m s Q E tl sd pg pd hl dc wl tg ta tm tw t1 t2 t3 t4 t5 t6 nt n1 n3 cnt hs ws held rows g k many oc osd gl al TT, L_unl_bad_S prog w p loose mean mg mb dp un gd cn cs a ccd cl outer A₀ base h₀ L m s Q E tl sd pg pd hl dc wl tg ta tm tw t1 t2 t3 t4 t5 t6 nt n1 n3 cnt hs ws held rows g k many oc osd gl al TT) c_prog c_w c_p c_loose c_mean c_mg c_mb c_dp c_un c_gd c_cn c_cs c_a c_ccd c_cl c_outer c_A₀ c_base c_h₀ c_L c_m c_s c_Q c_E c_tl c_sd c_pg c_pd c_hl c_dc c_wl c_tg c_ta c_tm c_tw c_t1 c_t2 c_t3 c_t4 c_t5 c_t6 c_nt c_n1 c_n3 c_cnt c_hs c_ws c_held c_rows c_g c_k c_many c_oc c_osd c_gl_ c_al c_TT
  intros prog w p loose mean mg mb dp un gd cn cs a ccd cl outer A₀ base h₀ L m s Q E tl sd pg pd hl dc wl tg ta tm tw t1 t2 t3 t4 t5 t6 nt n1 n3 cnt hs ws held rows g k many oc osd gl al TT
  intros B F X T hk N hsd hhs hws hoc hT htt lo hnd hsep hlen hlen2 hnt hmem hdp hun ret
  simp only [List.forall_mem_cons] at hsep
  obtain ⟨s0, s5, s4, s1, s3, s2, _⟩ := hsep
  have hnd5 : [pg, pd, hl, dc, wl].Nodup := (List.nodup_cons.mp hnd).2
  simp only [List.nodup_cons, List.mem_cons, List.not_mem_nil, or_false, not_or, List.nodup_nil, and_true, not_false_eq_true] at hnd
  obtain ⟨⟨e1, e2, e3, e4, e5⟩, ⟨d1, d2, d3, d4⟩, ⟨d5, d6, d7⟩, ⟨d8, d9⟩, d10⟩ := hnd
  walk_at "MINE enter"
  (repeat ((fail_if_success (with_reducible show wpAny _ _ (call (Value.ref 109) _) _ _ _)); first | (k_unfold; (try dsimp only)) | walk1 | (dsimp only; walk1) | (leave1; walk_say "STEP leave1"; (try dsimp only))))
  k_dflt (refine' P_unl_bad (TT := (_, { cls := .type "tuple", data := .seq #[.str "cell" _, .int _ _, .ref _] }) :: (_, { cls := .type "tuple", data := .seq #[] }) :: _) ?B ?F ?X ?T ?hk (pulls5 ?N ?t1 ?t2 ?t3 ?t4 ?t5) ?pl ?hs ?ws ?oc ?hT ?lo ?nd ?s1 ?s2 ?s3 ?s4 ?l1 ?l2 ?nt ?h0 ?dp ?un ?_)
  case h0 => k_asm
  case B => k_asm
  case F => k_asm
  case X => k_asm
  case T => k_asm
  case hk => exact rfl
  case N => k_asm
  case t1 => walk_at "MINE pull"
  case t2 => walk_at "MINE pull"
  case t3 => walk_at "MINE pull"
  case t4 => walk_at "MINE pull"
  case t5 => walk_at "MINE pull"
  case hs => walk_at "MINE lreads"
  case ws => walk_at "MINE rows"
  case oc => walk_at "MINE tabo"
  case hT => walk_at "MINE sub"
  case pl => exact lread_place
  case lo => k_asm
  case nd => walk_at "MINE nodup"
  case s1 => k_all
  case s2 => k_all
  case s3 => k_all
  case s4 => k_all
  case l1 => k_asm
  case l2 => k_asm
  case nt => k_asm
  case dp => ((try dsimp only [ktrTop, Around.deeper]); omega)
  case un => ((try dsimp only [ktrTop, Around.deeper]); omega)
  intro g9 h9 tk9 e9 d9 D9 ta9 tb9 tc9 va9 vb9 u19 u29 FG9 R9 U9
  (try k_sweep)
  k_steps
  refine' ret _ _ _ _ _ _ _ _ _ _ _ _ _ ?fr (RaisedE.sub ?rr ?ss) ?uu
  case rr => assumption
  case uu => assumption
  case fr => k_asm
  case ss => walk_at "MINE sub"
theorem L_unl_bad_a : ∀ x, L_unl_bad_P x := pk_all e_26 L_unl_bad_c
theorem e_27 : cc = k_27 := pk_next e_26 L_unl_bad_a
theorem L_unl_bad {prog w p loose mean mg mb dp un gd cn cs a ccd cl outer A₀ base h₀ L m s Q E tl sd pg pd hl dc wl tg ta tm tw t1 t2 t3 t4 t5 t6 nt n1 n3 cnt hs ws held rows g k many oc osd gl al TT} : L_unl_bad_S prog w p loose mean mg mb dp un gd cn cs a ccd cl outer A₀ base h₀ L m s Q E tl sd pg pd hl dc wl tg ta tm tw t1 t2 t3 t4 t5 t6 nt n1 n3 cnt hs ws held rows g k many oc osd gl al TT :=
  L_unl_bad_a (prog, w, p, loose, mean, mg, mb, dp, un, gd, cn, cs, a, ccd, cl, outer, A₀, base, h₀, L, m, s, Q, E, tl, tg, t1, t2, g, k, wl, many, pg, sd, ta, t3, osd, tm, tw, t4, t5, al, c_gl, c_n, c_vs, c_x, c_xd, c_q, pd, hl, dc, t6, nt, n1, n3, cnt, hs, ws, held, rows, oc, TT, c_z, c_fr, c_st, c_word, c_pl, c_tc, c_c, gl, cc.2.2.2.2.2.2.2.2.2.2.2.2.2.2.2.2.2.2.2.2.2.2.2.2.2.2.2.2.2.2.2.2.2.2.2.2.2.2.2.2.2.2.2.2.2.2.2.2.2.2.2.2.2.2.2.2.2.2.2.2.2.2.2.2.2.2.2.2.2.2)
theorem L_unl_none_c : L_unl_none_S c_prog c_w c_p c_loose c_mean c_mg c_mb c_dp c_un c_gd c_cn c_cs c_a c_ccd c_cl c_outer c_A₀ c_base c_h₀ c_L c_m c_s c_Q c_E c_tl c_sd c_pg c_pd c_hl c_dc c_wl c_tg c_ta c_tm c_tw c_t1 c_t2 c_t3 c_t4 c_t5 c_t6 c_nt c_n1 c_n3 c_cnt c_hs c_ws c_held c_rows c_g c_k c_many c_oc c_osd c_gl_ c_al c_TT := by
  refine' (?g : ∀ prog w p loose mean mg mb dp un gd cn cs a ccd cl outer A₀ base h₀ L m s Q E tl sd pg pd hl dc wl tg ta tm tw t1 t2 t3 t4 t5 t6 nt n1 n3 cnt hs ws held rows g k many oc osd gl al TT, L_unl_none_S prog w p loose mean mg mb dp un gd cn cs a ccd cl outer A₀ base h₀ L m s Q E tl sd pg pd hl dc wl tg ta tm tw t1 t2 t3 t4 t5 t6 nt n1 n3 cnt hs ws held rows g k many oc osd gl al TT) c_prog c_w c_p c_loose c_mean c_mg c_mb c_dp c_un c_gd c_cn c_cs c_a c_ccd c_cl c_outer c_A₀ c_base c_h₀ c_L c_m c_s c_Q c_E c_tl c_sd c_pg c_pd c_hl c_dc c_wl c_tg c_ta c_tm c_tw c_t1 c_t2 c_t3 c_t4 c_t5 c_t6 c_nt c_n1 c_n3 c_cnt c_hs c_ws c_held c_rows c_g c_k c_many c_oc c_osd c_gl_ c_al c_TT
  intros prog w p loose mean mg mb dp un gd cn cs a ccd cl outer A₀ base h₀ L m s Q E tl sd pg pd hl dc wl tg ta tm tw t1 t2 t3 t4 t5 t6 nt n1 n3 cnt hs ws held rows g k many oc osd gl al TT
  intros B F X T hk N hsd hhs hws hoc hT htt lo hnd hsep hlen hlen2 hnt hmem hno hdp hun ret
  simp only [List.forall_mem_cons] at hsep
  obtain ⟨s0, s5, s4, s1, s3, s2, _⟩ := hsep
  have hnd5 : [pg, pd, hl, dc, wl].Nodup := (List.nodup_cons.mp hnd).2
  simp only [List.nodup_cons, List.mem_cons, List.not_mem_nil, or_false, not_or, List.nodup_nil, and_true, not_false_eq_true] at hnd
  obtain ⟨⟨e1, e2, e3, e4, e5⟩, ⟨d1, d2, d3, d4⟩, ⟨d5, d6, d7⟩, ⟨d8, d9⟩, d10⟩ := hnd
  walk_at "MINE enter"
  (repeat ((fail_if_success (with_reducible show wpAny _ _ (call (Value.ref 109) _) _ _ _)); first | (k_unfold; (try dsimp only)) | walk1 | (dsimp only; walk1) | (leave1; walk_say "STEP leave1"; (try dsimp only))))
  k_dflt (refine' P_unl_none (TT := (_, { cls := .type "tuple", data := .seq #[.str "cell" _, .int _ _, .ref _] }) :: (_, { cls := .type "tuple", data := .seq #[] }) :: _) ?B ?F ?X ?T ?hk (pulls5 ?N ?t1 ?t2 ?t3 ?t4 ?t5) ?pl ?hs ?ws ?oc ?hT ?lo ?nd ?s1 ?s2 ?s3 ?s4 ?l1 ?l2 ?nt ?h0 ?h1 ?dp ?un ?_)
  case h0 => k_asm
  case h1 => k_asm
  case B => k_asm
  case F => k_asm
  case X => k_asm
  case T => k_asm
  case hk => exact rfl
  case N => k_asm
  case t1 => walk_at "MINE pull"
  case t2 => walk_at "MINE pull"
  case t3 => walk_at "MINE pull"
  case t4 => walk_at "MINE pull"
  case t5 => walk_at "MINE pull"
  case hs => walk_at "MINE lreads"
  case ws => walk_at "MINE rows"
  case oc => walk_at "MINE tabo"
  case hT => walk_at "MINE sub"
  case pl => exact lread_place
  case lo => k_asm
  case nd => walk_at "MINE nodup"
  case s1 => k_all
  case s2 => k_all
  case s3 => k_all
  case s4 => k_all
  case l1 => k_asm
  case l2 => k_asm
  case nt => k_asm
  case dp => ((try dsimp only [ktrTop, Around.deeper]); omega)
  case un => ((try dsimp only [ktrTop, Around.deeper]); omega)
  intro h' tk' l' F' N' fr'
  (try k_sweep)
  k_steps
  refine' ret _ _ _ _ _ _ _ _ _ _ _ _ _ _ ?f (news_sub ?n ?s) ?rw ?hs ?tb ?xx ?nn (news_sub ?n2 ?s2) ?tt ?us ?nl ?nr ?lr ?nw ?wl ?wr ?nx
  case f => k_asm
  case n => k_asm
  case s => walk_at "MINE sub"
  case rw => walk_at "MINE rows"
  case hs => walk_at "MINE lreads"
  case tb => walk_at "MINE tabo"
  case xx => walk_at "MINE sub"
  case nn => omega
  case n2 => k_asm
  case s2 => walk_at "MINE sub"
  case tt => walk_at "MINE tups"
  case us => walk_at "MINE lreads"
  case nl => walk_at "MINE new"
  case nr => walk_at "MINE new"
  case lr => k_ne
  case nw => walk_at "MINE newor"
  case wl => k_ne
  case wr => k_ne
  case nx => walk_at "MINE exs"
theorem L_unl_none_a : ∀ x, L_unl_none_P x := pk_all e_27 L_unl_none_c
theorem e_28 : cc = k_28 := pk_next e_27 L_unl_none_a
theorem L_unl_none {prog w p loose mean mg mb dp un gd cn cs a ccd cl outer A₀ base h₀ L m s Q E tl sd pg pd hl dc wl tg ta tm tw t1 t2 t3 t4 t5 t6 nt n1 n3 cnt hs ws held rows g k many oc osd gl al TT} : L_unl_none_S prog w p loose mean mg mb dp un gd cn cs a ccd cl outer A₀ base h₀ L m s Q E tl sd pg pd hl dc wl tg ta tm tw t1 t2 t3 t4 t5 t6 nt n1 n3 cnt hs ws held rows g k many oc osd gl al TT :=
  L_unl_none_a (prog, w, p, loose, mean, mg, mb, dp, un, gd, cn, cs, a, ccd, cl, outer, A₀, base, h₀, L, m, s, Q, E, tl, tg, t1, t2, g, k, wl, many, pg, sd, ta, t3, osd, tm, tw, t4, t5, al, c_gl, c_n, c_vs, c_x, c_xd, c_q, pd, hl, dc, t6, nt, n1, n3, cnt, hs, ws, held, rows, oc, TT, c_z, c_fr, c_st, c_word, c_pl, c_tc, c_c, gl, cc.2.2.2.2.2.2.2.2.2.2.2.2.2.2.2.2.2.2.2.2.2.2.2.2.2.2.2.2.2.2.2.2.2.2.2.2.2.2.2.2.2.2.2.2.2.2.2.2.2.2.2.2.2.2.2.2.2.2.2.2.2.2.2.2.2.2.2.2.2.2)
theorem L_unl_first_c : L_unl_first_S c_prog c_w c_p c_loose c_mean c_mg c_mb c_dp c_un c_gd c_cn c_cs c_a c_ccd c_cl c_outer c_A₀ c_base c_h₀ c_L c_m c_s c_Q c_E c_tl c_sd c_pg c_pd c_hl c_dc c_wl c_tg c_ta c_tm c_tw c_t1 c_t2 c_t3 c_t4 c_t5 c_t6 c_nt c_n1 c_n3 c_cnt c_hs c_ws c_held c_rows c_g c_k c_many c_oc c_osd c_gl_ c_al c_TT c_q_ c_pre c_post := by
  refine' (?g : ∀ prog w p loose mean mg mb dp un gd cn cs a ccd cl outer A₀ base h₀ L m s Q E tl sd pg pd hl dc wl tg ta tm tw t1 t2 t3 t4 t5 t6 nt n1 n3 cnt hs ws held rows g k many oc osd gl al TT q pre post, L_unl_first_S prog w p loose mean mg mb dp un gd cn cs a ccd cl outer A₀ base h₀ L m s Q E tl sd pg pd hl dc wl tg ta tm tw t1 t2 t3 t4 t5 t6 nt n1 n3 cnt hs ws held rows g k many oc osd gl al TT q pre post) c_prog c_w c_p c_loose c_mean c_mg c_mb c_dp c_un c_gd c_cn c_cs c_a c_ccd c_cl c_outer c_A₀ c_base c_h₀ c_L c_m c_s c_Q c_E c_tl c_sd c_pg c_pd c_hl c_dc c_wl c_tg c_ta c_tm c_tw c_t1 c_t2 c_t3 c_t4 c_t5 c_t6 c_nt c_n1 c_n3 c_cnt c_hs c_ws c_held c_rows c_g c_k c_many c_oc c_osd c_gl_ c_al c_TT c_q_ c_pre c_post
  intros prog w p loose mean mg mb dp un gd cn cs a ccd cl outer A₀ base h₀ L m s Q E tl sd pg pd hl dc wl tg ta tm tw t1 t2 t3 t4 t5 t6 nt n1 n3 cnt hs ws held rows g k many oc osd gl al TT q pre post
  intros B F X T hk N hsd hhs hws hoc hT htt lo hnd hsep hlen hlen2 hnt hmem hrows hno hdp hun ret
  simp only [List.forall_mem_cons] at hsep
  obtain ⟨s0, s5, s4, s1, s3, s2, _⟩ := hsep
  have hnd5 : [pg, pd, hl, dc, wl].Nodup := (List.nodup_cons.mp hnd).2
  simp only [List.nodup_cons, List.mem_cons, List.not_mem_nil, or_false, not_or, List.nodup_nil, and_true, not_false_eq_true] at hnd
  obtain ⟨⟨e1, e2, e3, e4, e5⟩, ⟨d1, d2, d3, d4⟩, ⟨d5, d6, d7⟩, ⟨d8, d9⟩, d10⟩ := hnd
  walk_at "MINE enter"
  (repeat ((fail_if_success (with_reducible show wpAny _ _ (call (Value.ref 109) _) _ _ _)); first | (k_unfold; (try dsimp only)) | walk1 | (dsimp only; walk1) | (leave1; walk_say "STEP leave1"; (try dsimp only))))
  k_dflt (refine' P_unl_first (TT := (_, { cls := .type "tuple", data := .seq #[.str "cell" _, .int _ _, .ref _] }) :: (_, { cls := .type "tuple", data := .seq #[] }) :: _) ?B ?F ?X ?T ?hk (pulls5 ?N ?t1 ?t2 ?t3 ?t4 ?t5) ?pl ?hs ?ws ?oc ?hT ?lo ?nd ?s1 ?s2 ?s3 ?s4 ?l1 ?l2 ?nt ?h0 ?h1 ?h2 ?dp ?un ?_)
  case h0 => k_asm
  case h1 => k_asm
  case h2 => k_asm
  case B => k_asm
  case F => k_asm
  case X => k_asm
  case T => k_asm
  case hk => exact rfl
  case N => k_asm
  case t1 => walk_at "MINE pull"
  case t2 => walk_at "MINE pull"
  case t3 => walk_at "MINE pull"
  case t4 => walk_at "MINE pull"
  case t5 => walk_at "MINE pull"
  case hs => walk_at "MINE lreads"
  case ws => walk_at "MINE rows"
  case oc => walk_at "MINE tabo"
  case hT => walk_at "MINE sub"
  case pl => exact lread_place
  case lo => k_asm
  case nd => walk_at "MINE nodup"
  case s1 => k_all
  case s2 => k_all
  case s3 => k_all
  case s4 => k_all
  case l1 => k_asm
  case l2 => k_asm
  case nt => k_asm
  case dp => ((try dsimp only [ktrTop, Around.deeper]); omega)
  case un => ((try dsimp only [ktrTop, Around.deeper]); omega)
  intro h' tk' l' u' F' N' fr'
  (try k_sweep)
  k_steps
  refine' ret _ _ _ _ _ _ _ _ _ _ _ _ _ _ ?f (news_sub ?n ?s) ?rw ?hs ?tb ?xx ?nn (news_sub ?n2 ?s2) ?tt ?us ?nl ?nr ?lr ?nw ?wl ?wr ?nx
  case f => k_asm
  case n => k_asm
  case s => walk_at "MINE sub"
  case rw => walk_at "MINE rows"
  case hs => walk_at "MINE lreads"
  case tb => walk_at "MINE tabo"
  case xx => walk_at "MINE sub"
  case nn => omega
  case n2 => k_asm
  case s2 => walk_at "MINE sub"
  case tt => walk_at "MINE tups"
  case us => walk_at "MINE lreads"
  case nl => walk_at "MINE new"
  case nr => walk_at "MINE new"
  case lr => k_ne
  case nw => walk_at "MINE newor"
  case wl => k_ne
  case wr => k_ne
  case nx => walk_at "MINE exs"
theorem L_unl_first_a : ∀ x, L_unl_first_P x := pk_all e_28 L_unl_first_c
theorem e_29 : cc = k_29 := pk_next e_28 L_unl_first_a
theorem L_unl_first {prog w p loose mean mg mb dp un gd cn cs a ccd cl outer A₀ base h₀ L m s Q E tl sd pg pd hl dc wl tg ta tm tw t1 t2 t3 t4 t5 t6 nt n1 n3 cnt hs ws held rows g k many oc osd gl al TT q pre post} : L_unl_first_S prog w p loose mean mg mb dp un gd cn cs a ccd cl outer A₀ base h₀ L m s Q E tl sd pg pd hl dc wl tg ta tm tw t1 t2 t3 t4 t5 t6 nt n1 n3 cnt hs ws held rows g k many oc osd gl al TT q pre post :=
  L_unl_first_a (prog, w, p, loose, mean, mg, mb, dp, un, gd, cn, cs, a, ccd, cl, outer, A₀, base, h₀, L, m, s, Q, E, tl, tg, t1, t2, g, k, wl, many, pg, sd, ta, t3, osd, tm, tw, t4, t5, al, c_gl, c_n, c_vs, c_x, c_xd, c_q, pd, hl, dc, t6, nt, n1, n3, cnt, hs, ws, held, rows, oc, TT, c_z, c_fr, c_st, c_word, c_pl, c_tc, c_c, gl, c_ng, c_gs, c_pv, c_to, c_o, c_b, c_out, c_tx, c_G, c_al_, c_na, c_as, c_st', c_asl, c_st2, c_D, c_l, pre, post, c_qs, c_tr, c_asl1, c_st1, c_K, c_ps, c_i, c_j, c_tb, c_r, c_us, q, cc.2.2.2.2.2.2.2.2.2.2.2.2.2.2.2.2.2.2.2.2.2.2.2.2.2.2.2.2.2.2.2.2.2.2.2.2.2.2.2.2.2.2.2.2.2.2.2.2.2.2.2.2.2.2.2.2.2.2.2.2.2.2.2.2.2.2.2.2.2.2.2.2.2.2.2.2.2.2.2.2.2.2.2.2.2.2.2.2.2.2.2.2.2.2.2.2.2.2.2.2.2)
theorem L_add_neg_c : L_add_neg_S c_prog c_w c_p c_loose c_mean c_mg c_mb c_dp c_un c_gd c_cn c_cs c_a c_ccd c_cl c_outer c_A₀ c_base c_h₀ c_L c_m c_s c_Q c_E c_tl c_sd c_pg c_pd c_hl c_dc c_wl c_tg c_ta c_tm c_tw c_t1 c_t2 c_t3 c_t4 c_t5 c_t6 c_nt c_n1 c_n3 c_cnt c_hs c_ws c_held c_rows c_g c_k c_many c_oc c_osd c_gl_ c_al c_TT := by
  refine' (?g : ∀ prog w p loose mean mg mb dp un gd cn cs a ccd cl outer A₀ base h₀ L m s Q E tl sd pg pd hl dc wl tg ta tm tw t1 t2 t3 t4 t5 t6 nt n1 n3 cnt hs ws held rows g k many oc osd gl al TT, L_add_neg_S prog w p loose mean mg mb dp un gd cn cs a ccd cl outer A₀ base h₀ L m s Q E tl sd pg pd hl dc wl tg ta tm tw t1 t2 t3 t4 t5 t6 nt n1 n3 cnt hs ws held rows g k many oc osd gl al TT) c_prog c_w c_p c_loose c_mean c_mg c_mb c_dp c_un c_gd c_cn c_cs c_a c_ccd c_cl c_outer c_A₀ c_base c_h₀ c_L c_m c_s c_Q c_E c_tl c_sd c_pg c_pd c_hl c_dc c_wl c_tg c_ta c_tm c_tw c_t1 c_t2 c_t3 c_t4 c_t5 c_t6 c_nt c_n1 c_n3 c_cnt c_hs c_ws c_held c_rows c_g c_k c_many c_oc c_osd c_gl_ c_al c_TT
  intros prog w p loose mean mg mb dp un gd cn cs a ccd cl outer A₀ base h₀ L m s Q E tl sd pg pd hl dc wl tg ta tm tw t1 t2 t3 t4 t5 t6 nt n1 n3 cnt hs ws held rows g k many oc osd gl al TT
  intros B F X T hk N hsd hhs hws hoc hT htt lo hnd hsep hlen hlen2 hnt hz hdp hun ret
  simp only [List.forall_mem_cons] at hsep
  obtain ⟨s0, s5, s4, s1, s3, s2, _⟩ := hsep
  have hnd5 : [pg, pd, hl, dc, wl].Nodup := (List.nodup_cons.mp hnd).2
  simp only [List.nodup_cons, List.mem_cons, List.not_mem_nil, or_false, not_or, List.nodup_nil, and_true, not_false_eq_true] at hnd
  obtain ⟨⟨e1, e2, e3, e4, e5⟩, ⟨d1, d2, d3, d4⟩, ⟨d5, d6, d7⟩, ⟨d8, d9⟩, d10⟩ := hnd
  walk_at "MINE enter"
  (repeat ((fail_if_success (with_reducible show wpAny _ _ (call (Value.ref 114) _) _ _ _)); first | (k_unfold; (try dsimp only)) | walk1 | (dsimp only; walk1) | (leave1; walk_say "STEP leave1"; (try dsimp only))))
  k_dflt (refine' P_add_neg (TT := (_, { cls := .type "tuple", data := .seq #[.str "cell" _, .int _ _, .ref _] }) :: (_, { cls := .type "tuple", data := .seq #[] }) :: _) ?B ?F ?X ?T ?hk (pulls5 ?N ?t1 ?t2 ?t3 ?t4 ?t5) ?pl ?hs ?ws ?oc ?hT ?lo ?nd ?s1 ?s2 ?s3 ?s4 ?l1 ?l2 ?nt ?h0 ?dp ?un ?_)
  case h0 => k_asm
  case B => k_asm
  case F => k_asm
  case X => k_asm
  case T => k_asm
  case hk => exact rfl
  case N => k_asm
  case t1 => walk_at "MINE pull"
  case t2 => walk_at "MINE pull"
  case t3 => walk_at "MINE pull"
  case t4 => walk_at "MINE pull"
  case t5 => walk_at "MINE pull"
  case hs => walk_at "MINE lreads"
  case ws => walk_at "MINE rows"
  case oc => walk_at "MINE tabo"
  case hT => walk_at "MINE sub"
  case pl => exact lread_place
  case lo => k_asm
  case nd => walk_at "MINE nodup"
  case s1 => k_all
  case s2 => k_all
  case s3 => k_all
  case s4 => k_all
  case l1 => k_asm
  case l2 => k_asm
  case nt => k_asm
  case dp => ((try dsimp only [ktrTop, Around.deeper]); omega)
  case un => ((try dsimp only [ktrTop, Around.deeper]); omega)
  intro g9 h9 tk9 e9 d9 D9 ta9 tb9 tc9 va9 vb9 u19 u29 FG9 R9 U9
  (try k_sweep)
  k_steps
  refine' ret _ _ _ _ _ _ _ _ _ _ _ _ _ ?fr (RaisedE.sub ?rr ?ss) ?uu
  case rr => assumption
  case uu => assumption
  case fr => k_asm
  case ss => walk_at "MINE sub"
theorem L_add_neg_a : ∀ x, L_add_neg_P x := pk_all e_29 L_add_neg_c
theorem e_30 : cc = k_30 := pk_next e_29 L_add_neg_a
theorem L_add_neg {prog w p loose mean mg mb dp un gd cn cs a ccd cl outer A₀ base h₀ L m s Q E tl sd pg pd hl dc wl tg ta tm tw t1 t2 t3 t4 t5 t6 nt n1 n3 cnt hs ws held rows g k many oc osd gl al TT} : L_add_neg_S prog w p loose mean mg mb dp un gd cn cs a ccd cl outer A₀ base h₀ L m s Q E tl sd pg pd hl dc wl tg ta tm tw t1 t2 t3 t4 t5 t6 nt n1 n3 cnt hs ws held rows g k many oc osd gl al TT :=
  L_add_neg_a (prog, w, p, loose, mean, mg, mb, dp, un, gd, cn, cs, a, ccd, cl, outer, A₀, base, h₀, L, m, s, Q, E, tl, tg, t1, t2, g, k, wl, many, pg, sd, ta, t3, osd, tm, tw, t4, t5, al, c_gl, c_n, c_vs, c_x, c_xd, c_q, pd, hl, dc, t6, nt, n1, n3, cnt, hs, ws, held, rows, oc, TT, c_z, c_fr, c_st, c_word, c_pl, c_tc, c_c, gl, cc.2.2.2.2.2.2.2.2.2.2.2.2.2.2.2.2.2.2.2.2.2.2.2.2.2.2.2.2.2.2.2.2.2.2.2.2.2.2.2.2.2.2.2.2.2.2.2.2.2.2.2.2.2.2.2.2.2.2.2.2.2.2.2.2.2.2.2.2.2.2)
theorem L_add_pos_c : L_add_pos_S c_prog c_w c_p c_loose c_mean c_mg c_mb c_dp c_un c_gd c_cn c_cs c_a c_ccd c_cl c_outer c_A₀ c_base c_h₀ c_L c_m c_s c_Q c_E c_tl c_sd c_pg c_pd c_hl c_dc c_wl c_tg c_ta c_tm c_tw c_t1 c_t2 c_t3 c_t4 c_t5 c_t6 c_nt c_n1 c_n3 c_cnt c_hs c_ws c_held c_rows c_g c_k c_many c_oc c_osd c_gl_ c_al c_TT := by
  refine' (?g : ∀ prog w p loose mean mg mb dp un gd cn cs a ccd cl outer A₀ base h₀ L m s Q E tl sd pg pd hl dc wl tg ta tm tw t1 t2 t3 t4 t5 t6 nt n1 n3 cnt hs ws held rows g k many oc osd gl al TT, L_add_pos_S prog w p loose mean mg mb dp un gd cn cs a ccd cl outer A₀ base h₀ L m s Q E tl sd pg pd hl dc wl tg ta tm tw t1 t2 t3 t4 t5 t6 nt n1 n3 cnt hs ws held rows g k many oc osd gl al TT) c_prog c_w c_p c_loose c_mean c_mg c_mb c_dp c_un c_gd c_cn c_cs c_a c_ccd c_cl c_outer c_A₀ c_base c_h₀ c_L c_m c_s c_Q c_E c_tl c_sd c_pg c_pd c_hl c_dc c_wl c_tg c_ta c_tm c_tw c_t1 c_t2 c_t3 c_t4 c_t5 c_t6 c_nt c_n1 c_n3 c_cnt c_hs c_ws c_held c_rows c_g c_k c_many c_oc c_osd c_gl_ c_al c_TT
  intros prog w p loose mean mg mb dp un gd cn cs a ccd cl outer A₀ base h₀ L m s Q E tl sd pg pd hl dc wl tg ta tm tw t1 t2 t3 t4 t5 t6 nt n1 n3 cnt hs ws held rows g k many oc osd gl al TT
  intros B F X T hk N hsd hhs hws hoc hT htt lo hnd hsep hlen hlen2 hnt hz hz2 hdp hun ret
  simp only [List.forall_mem_cons] at hsep
  obtain ⟨s0, s5, s4, s1, s3, s2, _⟩ := hsep
  have hnd5 : [pg, pd, hl, dc, wl].Nodup := (List.nodup_cons.mp hnd).2
  simp only [List.nodup_cons, List.mem_cons, List.not_mem_nil, or_false, not_or, List.nodup_nil, and_true, not_false_eq_true] at hnd
  obtain ⟨⟨e1, e2, e3, e4, e5⟩, ⟨d1, d2, d3, d4⟩, ⟨d5, d6, d7⟩, ⟨d8, d9⟩, d10⟩ := hnd
  walk_at "MINE enter"
  (repeat ((fail_if_success (with_reducible show wpAny _ _ (call (Value.ref 114) _) _ _ _)); first | (k_unfold; (try dsimp only)) | walk1 | (dsimp only; walk1) | (leave1; walk_say "STEP leave1"; (try dsimp only))))
  k_dflt (refine' P_add_pos (TT := (_, { cls := .type "tuple", data := .seq #[.str "cell" _, .int _ _, .ref _] }) :: (_, { cls := .type "tuple", data := .seq #[] }) :: _) ?B ?F ?X ?T ?hk (pulls5 ?N ?t1 ?t2 ?t3 ?t4 ?t5) ?pl ?hs ?ws ?oc ?hT ?lo ?nd ?s1 ?s2 ?s3 ?s4 ?l1 ?l2 ?nt ?h0 ?h1 ?dp ?un ?_)
  case h0 => k_asm
  case h1 => k_asm
  case B => k_asm
  case F => k_asm
  case X => k_asm
  case T => k_asm
  case hk => exact rfl
  case N => k_asm
  case t1 => walk_at "MINE pull"
  case t2 => walk_at "MINE pull"
  case t3 => walk_at "MINE pull"
  case t4 => walk_at "MINE pull"
  case t5 => walk_at "MINE pull"
  case hs => walk_at "MINE lreads"
  case ws => walk_at "MINE rows"
  case oc => walk_at "MINE tabo"
  case hT => walk_at "MINE sub"
  case pl => exact lread_place
  case lo => k_asm
  case nd => walk_at "MINE nodup"
  case s1 => k_all
  case s2 => k_all
  case s3 => k_all
  case s4 => k_all
  case l1 => k_asm
  case l2 => k_asm
  case nt => k_asm
  case dp => ((try dsimp only [ktrTop, Around.deeper]); omega)
  case un => ((try dsimp only [ktrTop, Around.deeper]); omega)
  intro h' tk' l' o' F' N' TO' fr'
  (try k_sweep)
  k_steps
  refine' ret _ _ _ _ _ _ _ _ _ _ _ _ _ _ ?f (news_sub ?n ?s) ?rw ?hs ?tb ?xx ?nn (news_sub ?n2 ?s2) ?tt ?us ?nl ?nr ?lr ?nw ?wl ?wr ?nx
  case f => k_asm
  case n => k_asm
  case s => walk_at "MINE sub"
  case tb => walk_at "MINE tabo"
  case rw => walk_at "MINE rows"
  case hs => walk_at "MINE lreads"
  case xx => walk_at "MINE sub"
  case nn => omega
  case n2 => k_asm
  case s2 => walk_at "MINE sub"
  case tt => walk_at "MINE tups"
  case us => walk_at "MINE lreads"
  case nl => walk_at "MINE new"
  case nr => walk_at "MINE new"
  case lr => k_ne
  case nw => walk_at "MINE newor"
  case wl => k_ne
  case wr => k_ne
  case nx => walk_at "MINE exs"
theorem L_add_pos_a : ∀ x, L_add_pos_P x := pk_all e_30 L_add_pos_c
theorem e_31 : cc = k_31 := pk_next e_30 L_add_pos_a
theorem L_add_pos {prog w p loose mean mg mb dp un gd cn cs a ccd cl outer A₀ base h₀ L m s Q E tl sd pg pd hl dc wl tg ta tm tw t1 t2 t3 t4 t5 t6 nt n1 n3 cnt hs ws held rows g k many oc osd gl al TT} : L_add_pos_S prog w p loose mean mg mb dp un gd cn cs a ccd cl outer A₀ base h₀ L m s Q E tl sd pg pd hl dc wl tg ta tm tw t1 t2 t3 t4 t5 t6 nt n1 n3 cnt hs ws held rows g k many oc osd gl al TT :=
  L_add_pos_a (prog, w, p, loose, mean, mg, mb, dp, un, gd, cn, cs, a, ccd, cl, outer, A₀, base, h₀, L, m, s, Q, E, tl, tg, t1, t2, g, k, wl, many, pg, sd, ta, t3, osd, tm, tw, t4, t5, al, c_gl, c_n, c_vs, c_x, c_xd, c_q, pd, hl, dc, t6, nt, n1, n3, cnt, hs, ws, held, rows, oc, TT, c_z, c_fr, c_st, c_word, c_pl, c_tc, c_c, gl, cc.2.2.2.2.2.2.2.2.2.2.2.2.2.2.2.2.2.2.2.2.2.2.2.2.2.2.2.2.2.2.2.2.2.2.2.2.2.2.2.2.2.2.2.2.2.2.2.2.2.2.2.2.2.2.2.2.2.2.2.2.2.2.2.2.2.2.2.2.2.2)
theorem L_add_zero_c : L_add_zero_S c_prog c_w c_p c_loose c_mean c_mg c_mb c_dp c_un c_gd c_cn c_cs c_a c_ccd c_cl c_outer c_A₀ c_base c_h₀ c_L c_m c_s c_Q c_E c_tl c_sd c_pg c_pd c_hl c_dc c_wl c_tg c_ta c_tm c_tw c_t1 c_t2 c_t3 c_t4 c_t5 c_t6 c_nt c_n1 c_n3 c_cnt c_hs c_ws c_held c_rows c_g c_k c_many c_oc c_osd c_gl_ c_al c_TT := by
  refine' (?g : ∀ prog w p loose mean mg mb dp un gd cn cs a ccd cl outer A₀ base h₀ L m s Q E tl sd pg pd hl dc wl tg ta tm tw t1 t2 t3 t4 t5 t6 nt n1 n3 cnt hs ws held rows g k many oc osd gl al TT, L_add_zero_S prog w p loose mean mg mb dp un gd cn cs a ccd cl outer A₀ base h₀ L m s Q E tl sd pg pd hl dc wl tg ta tm tw t1 t2 t3 t4 t5 t6 nt n1 n3 cnt hs ws held rows g k many oc osd gl al TT) c_prog c_w c_p c_loose c_mean c_mg c_mb c_dp c_un c_gd c_cn c_cs c_a c_ccd c_cl c_outer c_A₀ c_base c_h₀ c_L c_m c_s c_Q c_E c_tl c_sd c_pg c_pd c_hl c_dc c_wl c_tg c_ta c_tm c_tw c_t1 c_t2 c_t3 c_t4 c_t5 c_t6 c_nt c_n1 c_n3 c_cnt c_hs c_ws c_held c_rows c_g c_k c_many c_oc c_osd c_gl_ c_al c_TT
  intros prog w p loose mean mg mb dp un gd cn cs a ccd cl outer A₀ base h₀ L m s Q E tl sd pg pd hl dc wl tg ta tm tw t1 t2 t3 t4 t5 t6 nt n1 n3 cnt hs ws held rows g k many oc osd gl al TT
  intros B F X T hk N hsd hhs hws hoc hT htt lo hnd hsep hlen hlen2 hnt hz hz2 hdp hun ret
  simp only [List.forall_mem_cons] at hsep
  obtain ⟨s0, s5, s4, s1, s3, s2, _⟩ := hsep
  have hnd5 : [pg, pd, hl, dc, wl].Nodup := (List.nodup_cons.mp hnd).2
  simp only [List.nodup_cons, List.mem_cons, List.not_mem_nil, or_false, not_or, List.nodup_nil, and_true, not_false_eq_true] at hnd
  obtain ⟨⟨e1, e2, e3, e4, e5⟩, ⟨d1, d2, d3, d4⟩, ⟨d5, d6, d7⟩, ⟨d8, d9⟩, d10⟩ := hnd
  walk_at "MINE enter"
  (repeat ((fail_if_success (with_reducible show wpAny _ _ (call (Value.ref 114) _) _ _ _)); first | (k_unfold; (try dsimp only)) | walk1 | (dsimp only; walk1) | (leave1; walk_say "STEP leave1"; (try dsimp only))))
  k_dflt (refine' P_add_zero (TT := (_, { cls := .type "tuple", data := .seq #[.str "cell" _, .int _ _, .ref _] }) :: (_, { cls := .type "tuple", data := .seq #[] }) :: _) ?B ?F ?X ?T ?hk (pulls5 ?N ?t1 ?t2 ?t3 ?t4 ?t5) ?pl ?hs ?ws ?oc ?hT ?lo ?nd ?s1 ?s2 ?s3 ?s4 ?l1 ?l2 ?nt ?h0 ?h1 ?dp ?un ?_)
  case h0 => k_asm
  case h1 => k_asm
  case B => k_asm
  case F => k_asm
  case X => k_asm
  case T => k_asm
  case hk => exact rfl
  case N => k_asm
  case t1 => walk_at "MINE pull"
  case t2 => walk_at "MINE pull"
  case t3 => walk_at "MINE pull"
  case t4 => walk_at "MINE pull"
  case t5 => walk_at "MINE pull"
  case hs => walk_at "MINE lreads"
  case ws => walk_at "MINE rows"
  case oc => walk_at "MINE tabo"
  case hT => walk_at "MINE sub"
  case pl => exact lread_place
  case lo => k_asm
  case nd => walk_at "MINE nodup"
  case s1 => k_all
  case s2 => k_all
  case s3 => k_all
  case s4 => k_all
  case l1 => k_asm
  case l2 => k_asm
  case nt => k_asm
  case dp => ((try dsimp only [ktrTop, Around.deeper]); omega)
  case un => ((try dsimp only [ktrTop, Around.deeper]); omega)
  intro h' tk' D' D2' o' zs' zs2' F' N' TO' fr' fr2' ne' rz' rw'
  (try k_sweep)
  k_steps
  refine' ret _ _ _ _ _ _ _ _ _ _ _ _ _ _ ?f (news_sub ?n ?s) ?rw ?hs ?tb ?xx ?nn (news_sub ?n2 ?s2) ?tt ?us ?nl ?nr ?lr ?nw ?wl ?wr ?nx
  case f => k_asm
  case n => k_asm
  case s => walk_at "MINE sub"
  case tb => walk_at "MINE tabo"
  case rw => walk_at "MINE rows"
  case hs => walk_at "MINE lreads"
  case xx => walk_at "MINE sub"
  case nn => omega
  case n2 => k_asm
  case s2 => walk_at "MINE sub"
  case tt => walk_at "MINE tups"
  case us => exact Rel2.ints (by assumption)
  case nl => walk_at "MINE new"
  case nr => walk_at "MINE new"
  case lr => k_ne
  case nw => walk_at "MINE newor"
  case wl => k_ne
  case wr => k_ne
  case nx => walk_at "MINE exs"
theorem L_add_zero_a : ∀ x, L_add_zero_P x := pk_all e_31 L_add_zero_c
theorem e_32 : cc = k_32 := pk_next e_31 L_add_zero_a
theorem L_add_zero {prog w p loose mean mg mb dp un gd cn cs a ccd cl outer A₀ base h₀ L m s Q E tl sd pg pd hl dc wl tg ta tm tw t1 t2 t3 t4 t5 t6 nt n1 n3 cnt hs ws held rows g k many oc osd gl al TT} : L_add_zero_S prog w p loose mean mg mb dp un gd cn cs a ccd cl outer A₀ base h₀ L m s Q E tl sd pg pd hl dc wl tg ta tm tw t1 t2 t3 t4 t5 t6 nt n1 n3 cnt hs ws held rows g k many oc osd gl al TT :=
  L_add_zero_a (prog, w, p, loose, mean, mg, mb, dp, un, gd, cn, cs, a, ccd, cl, outer, A₀, base, h₀, L, m, s, Q, E, tl, tg, t1, t2, g, k, wl, many, pg, sd, ta, t3, osd, tm, tw, t4, t5, al, c_gl, c_n, c_vs, c_x, c_xd, c_q, pd, hl, dc, t6, nt, n1, n3, cnt, hs, ws, held, rows, oc, TT, c_z, c_fr, c_st, c_word, c_pl, c_tc, c_c, gl, cc.2.2.2.2.2.2.2.2.2.2.2.2.2.2.2.2.2.2.2.2.2.2.2.2.2.2.2.2.2.2.2.2.2.2.2.2.2.2.2.2.2.2.2.2.2.2.2.2.2.2.2.2.2.2.2.2.2.2.2.2.2.2.2.2.2.2.2.2.2.2)
end
-- PC4
section
local macro_rules | `(tactic| walk_at $k:str) => mtRun [
  ("MINE lread", "F6 Kk_asm E aLRead.int E aLRead.str S3 R @2 aLRead.more ?a ?s C a Kk_asm C s WMINE~sub S3 R @2 aLRead.tuple ?x ?m C m Kk_mem C x WMINE~lreads X"),
  ("MINE lreads", "F3 F3 S3 R @2 aLReads.snoc ?a ?b C a WMINE~lreads C b WMINE~lread S2 R @2 aLReads.eraseM _ ?a C a WMINE~lreads X F5 Kk_asm E aLReads.nil S3 R @2 aLReads.more ?a ?s C a Kk_asm C s WMINE~sub S3 R @2 aLReads.cons ?a ?b C a WMINE~lread C b WMINE~lreads X X"),
  ("MINE rows", "F3 F3 S3 R @2 aRowsIn.snoc ?a ?b C a WMINE~rows C b WMINE~row S2 R @2 aRowsIn.erase _ ?a C a WMINE~rows X F3 Kk_asm S3 R @2 aRowsIn.more ?a ?s C a Kk_asm C s WMINE~sub X X"),
  ("MINE row", "F4 Kk_asm S3 R @2 aRowIn.more ?a ?s C a Kk_asm C s WMINE~sub S3 R <7 _ _ _ _ arfl ?m ?x C m Kk_mem C x WMINE~lread X"),
  ("MINE tups", "F4 Kk_asm E @1 aList.forall_mem_nil _ S2 R @1 aList.forall_mem_cons.mpr <2 arfl ?b C b WMINE~tups X"),
  ("MINE seps", "F3 E @1 aList.forall_mem_nil _ S3 R @1 aList.forall_mem_cons.mpr <2 ?a ?b C a Kk_all C b WMINE~seps X"),
  ("MINE tabo", "F3 Kk_asm S3 R @2 aTabO.more ?a ?s C a Kk_asm C s WMINE~sub X"),
  ("MINE pull", "F3 E aPull.hit S2 R @1 aPull.keep ?b C b WMINE~pull X"),
  ("MINE nes", "F3 E @1 aList.forall_mem_nil _ S3 R @1 aList.forall_mem_cons.mpr <2 ?a ?b C a Kk_ne C b WMINE~nes X"),
  ("MINE new", "S3 R @2 aAnd.intro ?a ?b C a WMINE~nes C b Kk_all"),
  ("MINE newor", "F4 E @1 aOr.inl arfl E @1 aOr.inl ( y H Kassumption S2 R @1 aOr.inr ?a C a WMINE~new X"),
  ("MINE exs", "F4 E @1 aList.forall_mem_nil _ E l2 p hp @1 aOr.inl vhp S3 R @1 aList.forall_mem_cons.mpr <2 ?a ?b C a S2 R @1 aOr.inr ?c C c WMINE~new C b WMINE~exs X"),
  ("MINE nodup", "F3 H Kassumption S2 s8 List.nodup_cons List.mem_cons List.not_mem_nil or_false not_or List.nodup_nil and_true not_false_eq_true 0 Z P' A aAnd.intro Kk_ne X")] k.getString
theorem S_lock_free_c : S_lock_free_S c_prog c_w c_p c_loose c_mean c_mg c_mb c_dp c_un c_gd c_cn c_cs c_a c_ccd c_cl c_outer c_A₀ c_base c_h₀ c_L c_m c_s c_Q c_E c_tl c_sd c_gl c_x c_xd c_wl c_tg c_ta c_tm c_tw c_t1 c_t2 c_t3 c_t4 c_t5 c_n c_ng c_vs c_gs c_q c_g c_many c_k c_osd c_pv c_al := by
  refine' (?g : ∀ prog w p loose mean mg mb dp un gd cn cs a ccd cl outer A₀ base h₀ L m s Q E tl sd gl x xd wl tg ta tm tw t1 t2 t3 t4 t5 n ng vs gs q g many k osd pv al, S_lock_free_S prog w p loose mean mg mb dp un gd cn cs a ccd cl outer A₀ base h₀ L m s Q E tl sd gl x xd wl tg ta tm tw t1 t2 t3 t4 t5 n ng vs gs q g many k osd pv al) c_prog c_w c_p c_loose c_mean c_mg c_mb c_dp c_un c_gd c_cn c_cs c_a c_ccd c_cl c_outer c_A₀ c_base c_h₀ c_L c_m c_s c_Q c_E c_tl c_sd c_gl c_x c_xd c_wl c_tg c_ta c_tm c_tw c_t1 c_t2 c_t3 c_t4 c_t5 c_n c_ng c_vs c_gs c_q c_g c_many c_k c_osd c_pv c_al
  intros prog w p loose mean mg mb dp un gd cn cs a ccd cl outer A₀ base h₀ L m s Q E tl sd gl x xd wl tg ta tm tw t1 t2 t3 t4 t5 n ng vs gs q g many k osd pv al
  intros B F X T hk N hsd hq hnd hsep hlen hk0 hk4 hgx hdp hun ret
  simp only [List.forall_mem_cons] at hsep
  obtain ⟨s0, s5, s4, s1, s2, _⟩ := hsep
  have hnd3 : [x, xd, wl].Nodup := (List.nodup_cons.mp (List.nodup_cons.mp hnd).2).2
  simp only [List.nodup_cons, List.mem_cons, List.not_mem_nil, or_false, not_or, List.nodup_nil, and_true, not_false_eq_true] at hnd
  obtain ⟨⟨e1, e2, e3, e4⟩, ⟨d1, d2, d3⟩, ⟨d5, d6⟩, d8⟩ := hnd
  walk_at "MINE enter"
  (repeat ((fail_if_success (with_reducible show wpAny _ _ (call (Value.ref 158) _) _ _ _)); first | (k_unfold; (try dsimp only)) | walk1 | (dsimp only; walk1) | (leave1; walk_say "STEP leave1"; (try dsimp only))))
  k_dflt (refine' M_lock_free ?B ?F ?X ?T ?hk (pulls3 ?N ?t1 ?t2 ?t3) ?q ?nd ?s1 ?s2 ?l1  ?dp ?un ?_)
  case B => k_asm
  case F => k_asm
  case X => k_asm
  case T => k_asm
  case hk => exact rfl
  case N => k_asm
  case t1 => walk_at "MINE pull"
  case t2 => walk_at "MINE pull"
  case t3 => walk_at "MINE pull"
  case q => walk_at "MINE lreads"
  case nd => walk_at "MINE nodup"
  case s1 => k_all
  case s2 => k_all
  case l1 => k_asm
  case dp => ((try dsimp only [ktrTop, Around.deeper]); omega)
  case un => ((try dsimp only [ktrTop, Around.deeper]); omega)
  intro h' tk' F' N'
  (try k_sweep)
  k_steps
  refine' ret _ _ _ _ _ _ _ _ _ ?f (news_sub ?n ?s) ?q ?us ?nl ?nr ?lr ?nw ?wl ?wr
  case f => k_asm
  case n => k_asm
  case s => walk_at "MINE sub"
  case q => walk_at "MINE lreads"
  case us => walk_at "MINE lreads"
  case nl => walk_at "MINE new"
  case nr => walk_at "MINE newor"
  case lr => k_ne
  case nw => walk_at "MINE newor"
  case wl => k_ne
  case wr => k_ne
theorem S_lock_free_a : ∀ x, S_lock_free_P x := pk_all e_32 S_lock_free_c
theorem e_33 : cc = k_33 := pk_next e_32 S_lock_free_a
theorem S_lock_free {prog w p loose mean mg mb dp un gd cn cs a ccd cl outer A₀ base h₀ L m s Q E tl sd gl x xd wl tg ta tm tw t1 t2 t3 t4 t5 n ng vs gs q g many k osd pv al} : S_lock_free_S prog w p loose mean mg mb dp un gd cn cs a ccd cl outer A₀ base h₀ L m s Q E tl sd gl x xd wl tg ta tm tw t1 t2 t3 t4 t5 n ng vs gs q g many k osd pv al :=
  S_lock_free_a (prog, w, p, loose, mean, mg, mb, dp, un, gd, cn, cs, a, ccd, cl, outer, A₀, base, h₀, L, m, s, Q, E, tl, tg, t1, t2, g, k, wl, many, c_pg, sd, ta, t3, osd, tm, tw, t4, t5, al, gl, n, vs, x, xd, q, c_pd, c_hl, c_dc, c_t6, c_nt, c_n1, c_n3, c_cnt, c_hs, c_ws, c_held, c_rows, c_oc, c_TT, c_z, c_fr, c_st, c_word, c_pl, c_tc, c_c, c_gl_, ng, gs, pv, cc.2.2.2.2.2.2.2.2.2.2.2.2.2.2.2.2.2.2.2.2.2.2.2.2.2.2.2.2.2.2.2.2.2.2.2.2.2.2.2.2.2.2.2.2.2.2.2.2.2.2.2.2.2.2.2.2.2.2.2.2.2.2.2.2.2.2.2.2.2.2.2.2.2)
theorem S_lock_held_c : S_lock_held_S c_prog c_w c_p c_loose c_mean c_mg c_mb c_dp c_un c_gd c_cn c_cs c_a c_ccd c_cl c_outer c_A₀ c_base c_h₀ c_L c_m c_s c_Q c_E c_tl c_sd c_gl c_x c_xd c_wl c_tg c_ta c_tm c_tw c_t1 c_t2 c_t3 c_t4 c_t5 c_to c_n c_ng c_vs c_gs c_q c_g c_o c_many c_k c_osd c_pv c_al := by
  refine' (?g : ∀ prog w p loose mean mg mb dp un gd cn cs a ccd cl outer A₀ base h₀ L m s Q E tl sd gl x xd wl tg ta tm tw t1 t2 t3 t4 t5 to n ng vs gs q g o many k osd pv al, S_lock_held_S prog w p loose mean mg mb dp un gd cn cs a ccd cl outer A₀ base h₀ L m s Q E tl sd gl x xd wl tg ta tm tw t1 t2 t3 t4 t5 to n ng vs gs q g o many k osd pv al) c_prog c_w c_p c_loose c_mean c_mg c_mb c_dp c_un c_gd c_cn c_cs c_a c_ccd c_cl c_outer c_A₀ c_base c_h₀ c_L c_m c_s c_Q c_E c_tl c_sd c_gl c_x c_xd c_wl c_tg c_ta c_tm c_tw c_t1 c_t2 c_t3 c_t4 c_t5 c_to c_n c_ng c_vs c_gs c_q c_g c_o c_many c_k c_osd c_pv c_al
  intros prog w p loose mean mg mb dp un gd cn cs a ccd cl outer A₀ base h₀ L m s Q E tl sd gl x xd wl tg ta tm tw t1 t2 t3 t4 t5 to n ng vs gs q g o many k osd pv al
  intros B F X T hk N hsd hq hnd hsep hlen hk0 hk4 hgx hmem hdp hun ret
  simp only [List.forall_mem_cons] at hsep
  obtain ⟨s0, s5, s4, s1, s2, _⟩ := hsep
  have hnd3 : [x, xd, wl].Nodup := (List.nodup_cons.mp (List.nodup_cons.mp hnd).2).2
  simp only [List.nodup_cons, List.mem_cons, List.not_mem_nil, or_false, not_or, List.nodup_nil, and_true, not_false_eq_true] at hnd
  obtain ⟨⟨e1, e2, e3, e4⟩, ⟨d1, d2, d3⟩, ⟨d5, d6⟩, d8⟩ := hnd
  walk_at "MINE enter"
  (repeat ((fail_if_success (with_reducible show wpAny _ _ (call (Value.ref 158) _) _ _ _)); first | (k_unfold; (try dsimp only)) | walk1 | (dsimp only; walk1) | (leave1; walk_say "STEP leave1"; (try dsimp only))))
  k_dflt (refine' M_lock_held ?B ?F ?X ?T ?hk (pulls3 ?N ?t1 ?t2 ?t3) ?q ?nd ?s1 ?s2 ?l1 ?h0 ?dp ?un ?_)
  case B => k_asm
  case F => k_asm
  case X => k_asm
  case T => k_asm
  case hk => exact rfl
  case N => k_asm
  case t1 => walk_at "MINE pull"
  case t2 => walk_at "MINE pull"
  case t3 => walk_at "MINE pull"
  case h0 => first | k_asm | exact rfl
  case q => walk_at "MINE lreads"
  case nd => walk_at "MINE nodup"
  case s1 => k_all
  case s2 => k_all
  case l1 => k_asm
  case dp => ((try dsimp only [ktrTop, Around.deeper]); omega)
  case un => ((try dsimp only [ktrTop, Around.deeper]); omega)
  intro h' tk' F' N'
  (try k_sweep)
  k_steps
  refine' ret _ _ _ _ _ _ _ _ _ ?f (news_sub ?n ?s) ?q ?us ?nl ?nr ?lr ?nw ?wl ?wr
  case f => k_asm
  case n => k_asm
  case s => walk_at "MINE sub"
  case q => walk_at "MINE lreads"
  case us => walk_at "MINE lreads"
  case nl => walk_at "MINE new"
  case nr => walk_at "MINE newor"
  case lr => k_ne
  case nw => walk_at "MINE newor"
  case wl => k_ne
  case wr => k_ne
theorem S_lock_held_a : ∀ x, S_lock_held_P x := pk_all e_33 S_lock_held_c
theorem e_34 : cc = k_34 := pk_next e_33 S_lock_held_a
theorem S_lock_held {prog w p loose mean mg mb dp un gd cn cs a ccd cl outer A₀ base h₀ L m s Q E tl sd gl x xd wl tg ta tm tw t1 t2 t3 t4 t5 to n ng vs gs q g o many k osd pv al} : S_lock_held_S prog w p loose mean mg mb dp un gd cn cs a ccd cl outer A₀ base h₀ L m s Q E tl sd gl x xd wl tg ta tm tw t1 t2 t3 t4 t5 to n ng vs gs q g o many k osd pv al :=
  S_lock_held_a (prog, w, p, loose, mean, mg, mb, dp, un, gd, cn, cs, a, ccd, cl, outer, A₀, base, h₀, L, m, s, Q, E, tl, tg, t1, t2, g, k, wl, many, c_pg, sd, ta, t3, osd, tm, tw, t4, t5, al, gl, n, vs, x, xd, q, c_pd, c_hl, c_dc, c_t6, c_nt, c_n1, c_n3, c_cnt, c_hs, c_ws, c_held, c_rows, c_oc, c_TT, c_z, c_fr, c_st, c_word, c_pl, c_tc, c_c, c_gl_, ng, gs, pv, to, o, cc.2.2.2.2.2.2.2.2.2.2.2.2.2.2.2.2.2.2.2.2.2.2.2.2.2.2.2.2.2.2.2.2.2.2.2.2.2.2.2.2.2.2.2.2.2.2.2.2.2.2.2.2.2.2.2.2.2.2.2.2.2.2.2.2.2.2.2.2.2.2.2.2.2.2.2)
theorem S_unl_bad_c : S_unl_bad_S c_prog c_w c_p c_loose c_mean c_mg c_mb c_dp c_un c_gd c_cn c_cs c_a c_ccd c_cl c_outer c_A₀ c_base c_h₀ c_L c_m c_s c_Q c_E c_tl c_sd c_gl c_x c_xd c_wl c_tg c_ta c_tm c_tw c_t1 c_t2 c_t3 c_t4 c_t5 c_n c_ng c_vs c_gs c_q c_g c_many c_k c_osd c_pv c_al := by
  refine' (?g : ∀ prog w p loose mean mg mb dp un gd cn cs a ccd cl outer A₀ base h₀ L m s Q E tl sd gl x xd wl tg ta tm tw t1 t2 t3 t4 t5 n ng vs gs q g many k osd pv al, S_unl_bad_S prog w p loose mean mg mb dp un gd cn cs a ccd cl outer A₀ base h₀ L m s Q E tl sd gl x xd wl tg ta tm tw t1 t2 t3 t4 t5 n ng vs gs q g many k osd pv al) c_prog c_w c_p c_loose c_mean c_mg c_mb c_dp c_un c_gd c_cn c_cs c_a c_ccd c_cl c_outer c_A₀ c_base c_h₀ c_L c_m c_s c_Q c_E c_tl c_sd c_gl c_x c_xd c_wl c_tg c_ta c_tm c_tw c_t1 c_t2 c_t3 c_t4 c_t5 c_n c_ng c_vs c_gs c_q c_g c_many c_k c_osd c_pv c_al
  intros prog w p loose mean mg mb dp un gd cn cs a ccd cl outer A₀ base h₀ L m s Q E tl sd gl x xd wl tg ta tm tw t1 t2 t3 t4 t5 n ng vs gs q g many k osd pv al
  intros B F X T hk N hsd hq hnd hsep hlen hk0 hk4 hgx hdp hun ret
  simp only [List.forall_mem_cons] at hsep
  obtain ⟨s0, s5, s4, s1, s2, _⟩ := hsep
  have hnd3 : [x, xd, wl].Nodup := (List.nodup_cons.mp (List.nodup_cons.mp hnd).2).2
  simp only [List.nodup_cons, List.mem_cons, List.not_mem_nil, or_false, not_or, List.nodup_nil, and_true, not_false_eq_true] at hnd
  obtain ⟨⟨e1, e2, e3, e4⟩, ⟨d1, d2, d3⟩, ⟨d5, d6⟩, d8⟩ := hnd
  walk_at "MINE enter"
  (repeat ((fail_if_success (with_reducible show wpAny _ _ (call (Value.ref 165) _) _ _ _)); first | (k_unfold; (try dsimp only)) | walk1 | (dsimp only; walk1) | (leave1; walk_say "STEP leave1"; (try dsimp only))))
  k_dflt (refine' M_unl_bad ?B ?F ?X ?T ?hk (pulls3 ?N ?t1 ?t2 ?t3) ?q ?nd ?s1 ?s2 ?l1  ?dp ?un ?_)
  case B => k_asm
  case F => k_asm
  case X => k_asm
  case T => k_asm
  case hk => exact rfl
  case N => k_asm
  case t1 => walk_at "MINE pull"
  case t2 => walk_at "MINE pull"
  case t3 => walk_at "MINE pull"
  case q => walk_at "MINE lreads"
  case nd => walk_at "MINE nodup"
  case s1 => k_all
  case s2 => k_all
  case l1 => k_asm
  case dp => ((try dsimp only [ktrTop, Around.deeper]); omega)
  case un => ((try dsimp only [ktrTop, Around.deeper]); omega)
  intro g9 h9 tk9 e9 d9 D9 ta9 tb9 tc9 va9 vb9 u19 u29 FG9 R9 U9
  (try k_sweep)
  k_steps
  refine' ret _ _ _ _ _ _ _ _ _ _ _ _ _ ?fr (RaisedE.sub ?rr ?ss) ?uu
  case rr => assumption
  case uu => assumption
  case fr => k_asm
  case ss => walk_at "MINE sub"
theorem S_unl_bad_a : ∀ x, S_unl_bad_P x := pk_all e_34 S_unl_bad_c
theorem e_35 : cc = k_35 := pk_next e_34 S_unl_bad_a
theorem S_unl_bad {prog w p loose mean mg mb dp un gd cn cs a ccd cl outer A₀ base h₀ L m s Q E tl sd gl x xd wl tg ta tm tw t1 t2 t3 t4 t5 n ng vs gs q g many k osd pv al} : S_unl_bad_S prog w p loose mean mg mb dp un gd cn cs a ccd cl outer A₀ base h₀ L m s Q E tl sd gl x xd wl tg ta tm tw t1 t2 t3 t4 t5 n ng vs gs q g many k osd pv al :=
  S_unl_bad_a (prog, w, p, loose, mean, mg, mb, dp, un, gd, cn, cs, a, ccd, cl, outer, A₀, base, h₀, L, m, s, Q, E, tl, tg, t1, t2, g, k, wl, many, c_pg, sd, ta, t3, osd, tm, tw, t4, t5, al, gl, n, vs, x, xd, q, c_pd, c_hl, c_dc, c_t6, c_nt, c_n1, c_n3, c_cnt, c_hs, c_ws, c_held, c_rows, c_oc, c_TT, c_z, c_fr, c_st, c_word, c_pl, c_tc, c_c, c_gl_, ng, gs, pv, cc.2.2.2.2.2.2.2.2.2.2.2.2.2.2.2.2.2.2.2.2.2.2.2.2.2.2.2.2.2.2.2.2.2.2.2.2.2.2.2.2.2.2.2.2.2.2.2.2.2.2.2.2.2.2.2.2.2.2.2.2.2.2.2.2.2.2.2.2.2.2.2.2.2)
theorem S_unl_none_c : S_unl_none_S c_prog c_w c_p c_loose c_mean c_mg c_mb c_dp c_un c_gd c_cn c_cs c_a c_ccd c_cl c_outer c_A₀ c_base c_h₀ c_L c_m c_s c_Q c_E c_tl c_sd c_gl c_x c_xd c_wl c_tg c_ta c_tm c_tw c_t1 c_t2 c_t3 c_t4 c_t5 c_to c_n c_ng c_vs c_gs c_q c_g c_o c_many c_k c_osd c_pv c_al := by
  refine' (?g : ∀ prog w p loose mean mg mb dp un gd cn cs a ccd cl outer A₀ base h₀ L m s Q E tl sd gl x xd wl tg ta tm tw t1 t2 t3 t4 t5 to n ng vs gs q g o many k osd pv al, S_unl_none_S prog w p loose mean mg mb dp un gd cn cs a ccd cl outer A₀ base h₀ L m s Q E tl sd gl x xd wl tg ta tm tw t1 t2 t3 t4 t5 to n ng vs gs q g o many k osd pv al) c_prog c_w c_p c_loose c_mean c_mg c_mb c_dp c_un c_gd c_cn c_cs c_a c_ccd c_cl c_outer c_A₀ c_base c_h₀ c_L c_m c_s c_Q c_E c_tl c_sd c_gl c_x c_xd c_wl c_tg c_ta c_tm c_tw c_t1 c_t2 c_t3 c_t4 c_t5 c_to c_n c_ng c_vs c_gs c_q c_g c_o c_many c_k c_osd c_pv c_al
  intros prog w p loose mean mg mb dp un gd cn cs a ccd cl outer A₀ base h₀ L m s Q E tl sd gl x xd wl tg ta tm tw t1 t2 t3 t4 t5 to n ng vs gs q g o many k osd pv al
  intros B F X T hk N hsd hq hnd hsep hlen hk0 hk4 hgx hvs hdp hun ret
  simp only [List.forall_mem_cons] at hsep
  obtain ⟨s0, s5, s4, s1, s2, _⟩ := hsep
  have hnd3 : [x, xd, wl].Nodup := (List.nodup_cons.mp (List.nodup_cons.mp hnd).2).2
  simp only [List.nodup_cons, List.mem_cons, List.not_mem_nil, or_false, not_or, List.nodup_nil, and_true, not_false_eq_true] at hnd
  obtain ⟨⟨e1, e2, e3, e4⟩, ⟨d1, d2, d3⟩, ⟨d5, d6⟩, d8⟩ := hnd
  walk_at "MINE enter"
  (repeat ((fail_if_success (with_reducible show wpAny _ _ (call (Value.ref 165) _) _ _ _)); first | (k_unfold; (try dsimp only)) | walk1 | (dsimp only; walk1) | (leave1; walk_say "STEP leave1"; (try dsimp only))))
  k_dflt (refine' M_unl_none ?B ?F ?X ?T ?hk (pulls3 ?N ?t1 ?t2 ?t3) ?q ?nd ?s1 ?s2 ?l1 ?h0 ?dp ?un ?_)
  case B => k_asm
  case F => k_asm
  case X => k_asm
  case T => k_asm
  case hk => exact rfl
  case N => k_asm
  case t1 => walk_at "MINE pull"
  case t2 => walk_at "MINE pull"
  case t3 => walk_at "MINE pull"
  case h0 => first | k_asm | exact rfl
  case q => walk_at "MINE lreads"
  case nd => walk_at "MINE nodup"
  case s1 => k_all
  case s2 => k_all
  case l1 => k_asm
  case dp => ((try dsimp only [ktrTop, Around.deeper]); omega)
  case un => ((try dsimp only [ktrTop, Around.deeper]); omega)
  intro h' tk' F' N'
  (try k_sweep)
  k_steps
  refine' ret _ _ _ _ _ _ _ _ _ ?f (news_sub ?n ?s) ?q ?us ?nl ?nr ?lr ?nw ?wl ?wr
  case f => k_asm
  case n => k_asm
  case s => walk_at "MINE sub"
  case q => walk_at "MINE lreads"
  case us => walk_at "MINE lreads"
  case nl => walk_at "MINE new"
  case nr => walk_at "MINE newor"
  case lr => k_ne
  case nw => walk_at "MINE newor"
  case wl => k_ne
  case wr => k_ne
theorem S_unl_none_a : ∀ x, S_unl_none_P x := pk_all e_35 S_unl_none_c
theorem e_36 : cc = k_36 := pk_next e_35 S_unl_none_a
theorem S_unl_none {prog w p loose mean mg mb dp un gd cn cs a ccd cl outer A₀ base h₀ L m s Q E tl sd gl x xd wl tg ta tm tw t1 t2 t3 t4 t5 to n ng vs gs q g o many k osd pv al} : S_unl_none_S prog w p loose mean mg mb dp un gd cn cs a ccd cl outer A₀ base h₀ L m s Q E tl sd gl x xd wl tg ta tm tw t1 t2 t3 t4 t5 to n ng vs gs q g o many k osd pv al :=
  S_unl_none_a (prog, w, p, loose, mean, mg, mb, dp, un, gd, cn, cs, a, ccd, cl, outer, A₀, base, h₀, L, m, s, Q, E, tl, tg, t1, t2, g, k, wl, many, c_pg, sd, ta, t3, osd, tm, tw, t4, t5, al, gl, n, vs, x, xd, q, c_pd, c_hl, c_dc, c_t6, c_nt, c_n1, c_n3, c_cnt, c_hs, c_ws, c_held, c_rows, c_oc, c_TT, c_z, c_fr, c_st, c_word, c_pl, c_tc, c_c, c_gl_, ng, gs, pv, to, o, cc.2.2.2.2.2.2.2.2.2.2.2.2.2.2.2.2.2.2.2.2.2.2.2.2.2.2.2.2.2.2.2.2.2.2.2.2.2.2.2.2.2.2.2.2.2.2.2.2.2.2.2.2.2.2.2.2.2.2.2.2.2.2.2.2.2.2.2.2.2.2.2.2.2.2.2)
theorem S_unl_first_c : S_unl_first_S c_prog c_w c_p c_loose c_mean c_mg c_mb c_dp c_un c_gd c_cn c_cs c_a c_ccd c_cl c_outer c_A₀ c_base c_h₀ c_L c_m c_s c_Q c_E c_tl c_sd c_gl c_x c_xd c_wl c_tg c_ta c_tm c_tw c_t1 c_t2 c_t3 c_t4 c_t5 c_to c_n c_ng c_vs c_gs c_q c_g c_o c_many c_k c_osd c_pv c_al c_r0 c_qs c_tr c_us0 := by
  refine' (?g : ∀ prog w p loose mean mg mb dp un gd cn cs a ccd cl outer A₀ base h₀ L m s Q E tl sd gl x xd wl tg ta tm tw t1 t2 t3 t4 t5 to n ng vs gs q g o many k osd pv al r0 qs tr us0, S_unl_first_S prog w p loose mean mg mb dp un gd cn cs a ccd cl outer A₀ base h₀ L m s Q E tl sd gl x xd wl tg ta tm tw t1 t2 t3 t4 t5 to n ng vs gs q g o many k osd pv al r0 qs tr us0) c_prog c_w c_p c_loose c_mean c_mg c_mb c_dp c_un c_gd c_cn c_cs c_a c_ccd c_cl c_outer c_A₀ c_base c_h₀ c_L c_m c_s c_Q c_E c_tl c_sd c_gl c_x c_xd c_wl c_tg c_ta c_tm c_tw c_t1 c_t2 c_t3 c_t4 c_t5 c_to c_n c_ng c_vs c_gs c_q c_g c_o c_many c_k c_osd c_pv c_al c_r0 c_qs c_tr c_us0
  intros prog w p loose mean mg mb dp un gd cn cs a ccd cl outer A₀ base h₀ L m s Q E tl sd gl x xd wl tg ta tm tw t1 t2 t3 t4 t5 to n ng vs gs q g o many k osd pv al r0 qs tr us0
  intros B F X T hk N hsd hq hnd hsep hlen hk0 hk4 hgx hvs hqe hqs hdp hun ret
  simp only [List.forall_mem_cons] at hsep
  obtain ⟨s0, s5, s4, s1, s2, _⟩ := hsep
  have hnd3 : [x, xd, wl].Nodup := (List.nodup_cons.mp (List.nodup_cons.mp hnd).2).2
  simp only [List.nodup_cons, List.mem_cons, List.not_mem_nil, or_false, not_or, List.nodup_nil, and_true, not_false_eq_true] at hnd
  obtain ⟨⟨e1, e2, e3, e4⟩, ⟨d1, d2, d3⟩, ⟨d5, d6⟩, d8⟩ := hnd
  walk_at "MINE enter"
  (repeat ((fail_if_success (with_reducible show wpAny _ _ (call (Value.ref 165) _) _ _ _)); first | (k_unfold; (try dsimp only)) | walk1 | (dsimp only; walk1) | (leave1; walk_say "STEP leave1"; (try dsimp only))))
  k_dflt (refine' M_unl_first ?B ?F ?X ?T ?hk (pulls3 ?N ?t1 ?t2 ?t3) ?q ?nd ?s1 ?s2 ?l1 ?h0 ?h1 ?dp ?un ?_)
  case B => k_asm
  case F => k_asm
  case X => k_asm
  case T => k_asm
  case hk => exact rfl
  case N => k_asm
  case t1 => walk_at "MINE pull"
  case t2 => walk_at "MINE pull"
  case t3 => walk_at "MINE pull"
  case h0 => first | k_asm | exact rfl
  case h1 => first | k_asm | exact rfl
  case q => walk_at "MINE lreads"
  case nd => walk_at "MINE nodup"
  case s1 => k_all
  case s2 => k_all
  case l1 => k_asm
  case dp => ((try dsimp only [ktrTop, Around.deeper]); omega)
  case un => ((try dsimp only [ktrTop, Around.deeper]); omega)
  intro h' tk' F' N'
  (try k_sweep)
  k_steps
  refine' ret _ _ _ _ _ _ _ _ _ ?f (news_sub ?n ?s) ?q ?us ?nl ?nr ?lr ?nw ?wl ?wr
  case f => k_asm
  case n => k_asm
  case s => walk_at "MINE sub"
  case q => walk_at "MINE lreads"
  case us => walk_at "MINE lreads"
  case nl => walk_at "MINE new"
  case nr => walk_at "MINE newor"
  case lr => k_ne
  case nw => walk_at "MINE newor"
  case wl => k_ne
  case wr => k_ne
theorem S_unl_first_a : ∀ x, S_unl_first_P x := pk_all e_36 S_unl_first_c
theorem e_37 : cc = k_37 := pk_next e_36 S_unl_first_a
theorem S_unl_first {prog w p loose mean mg mb dp un gd cn cs a ccd cl outer A₀ base h₀ L m s Q E tl sd gl x xd wl tg ta tm tw t1 t2 t3 t4 t5 to n ng vs gs q g o many k osd pv al r0 qs tr us0} : S_unl_first_S prog w p loose mean mg mb dp un gd cn cs a ccd cl outer A₀ base h₀ L m s Q E tl sd gl x xd wl tg ta tm tw t1 t2 t3 t4 t5 to n ng vs gs q g o many k osd pv al r0 qs tr us0 :=
  S_unl_first_a (prog, w, p, loose, mean, mg, mb, dp, un, gd, cn, cs, a, ccd, cl, outer, A₀, base, h₀, L, m, s, Q, E, tl, tg, t1, t2, g, k, wl, many, c_pg, sd, ta, t3, osd, tm, tw, t4, t5, al, gl, n, vs, x, xd, q, c_pd, c_hl, c_dc, c_t6, c_nt, c_n1, c_n3, c_cnt, c_hs, c_ws, c_held, c_rows, c_oc, c_TT, c_z, c_fr, c_st, c_word, c_pl, c_tc, c_c, c_gl_, ng, gs, pv, to, o, c_b, c_out, c_tx, c_G, c_al_, c_na, c_as, c_st', c_asl, c_st2, c_D, c_l, c_pre, c_post, qs, tr, c_asl1, c_st1, c_K, c_ps, c_i, c_j, c_tb, c_r, c_us, c_q_, r0, us0, cc.2.2.2.2.2.2.2.2.2.2.2.2.2.2.2.2.2.2.2.2.2.2.2.2.2.2.2.2.2.2.2.2.2.2.2.2.2.2.2.2.2.2.2.2.2.2.2.2.2.2.2.2.2.2.2.2.2.2.2.2.2.2.2.2.2.2.2.2.2.2.2.2.2.2.2.2.2.2.2.2.2.2.2.2.2.2.2.2.2.2.2.2.2.2.2.2.2.2.2.2.2.2.2)
theorem S_add_neg_c : S_add_neg_S c_prog c_w c_p c_loose c_mean c_mg c_mb c_dp c_un c_gd c_cn c_cs c_a c_ccd c_cl c_outer c_A₀ c_base c_h₀ c_L c_m c_s c_Q c_E c_tl c_sd c_gl c_x c_xd c_wl c_tg c_ta c_tm c_tw c_t1 c_t2 c_t3 c_t4 c_t5 c_tc c_n c_ng c_vs c_gs c_q c_g c_c c_many c_k c_osd c_pv c_al := by
  refine' (?g : ∀ prog w p loose mean mg mb dp un gd cn cs a ccd cl outer A₀ base h₀ L m s Q E tl sd gl x xd wl tg ta tm tw t1 t2 t3 t4 t5 tc n ng vs gs q g c many k osd pv al, S_add_neg_S prog w p loose mean mg mb dp un gd cn cs a ccd cl outer A₀ base h₀ L m s Q E tl sd gl x xd wl tg ta tm tw t1 t2 t3 t4 t5 tc n ng vs gs q g c many k osd pv al) c_prog c_w c_p c_loose c_mean c_mg c_mb c_dp c_un c_gd c_cn c_cs c_a c_ccd c_cl c_outer c_A₀ c_base c_h₀ c_L c_m c_s c_Q c_E c_tl c_sd c_gl c_x c_xd c_wl c_tg c_ta c_tm c_tw c_t1 c_t2 c_t3 c_t4 c_t5 c_tc c_n c_ng c_vs c_gs c_q c_g c_c c_many c_k c_osd c_pv c_al
  intros prog w p loose mean mg mb dp un gd cn cs a ccd cl outer A₀ base h₀ L m s Q E tl sd gl x xd wl tg ta tm tw t1 t2 t3 t4 t5 tc n ng vs gs q g c many k osd pv al
  intros B F X T hk N hsd hq hnd hsep hlen hk0 hk4 hgx hz hdp hun ret
  simp only [List.forall_mem_cons] at hsep
  obtain ⟨s0, s5, s4, s1, s2, _⟩ := hsep
  have hnd3 : [x, xd, wl].Nodup := (List.nodup_cons.mp (List.nodup_cons.mp hnd).2).2
  simp only [List.nodup_cons, List.mem_cons, List.not_mem_nil, or_false, not_or, List.nodup_nil, and_true, not_false_eq_true] at hnd
  obtain ⟨⟨e1, e2, e3, e4⟩, ⟨d1, d2, d3⟩, ⟨d5, d6⟩, d8⟩ := hnd
  walk_at "MINE enter"
  (repeat ((fail_if_success (with_reducible show wpAny _ _ (call (Value.ref 193) _) _ _ _)); first | (k_unfold; (try dsimp only)) | walk1 | (dsimp only; walk1) | (leave1; walk_say "STEP leave1"; (try dsimp only))))
  k_dflt (refine' W_add_neg ?B ?F ?X ?T ?hk (pulls3 ?N ?t1 ?t2 ?t3) ?q ?nd ?s1 ?s2 ?l1 ?h0 ?dp ?un ?_)
  case B => k_asm
  case F => k_asm
  case X => k_asm
  case T => k_asm
  case hk => exact rfl
  case N => k_asm
  case t1 => walk_at "MINE pull"
  case t2 => walk_at "MINE pull"
  case t3 => walk_at "MINE pull"
  case h0 => first | k_asm | exact rfl
  case q => walk_at "MINE lreads"
  case nd => walk_at "MINE nodup"
  case s1 => k_all
  case s2 => k_all
  case l1 => k_asm
  case dp => ((try dsimp only [ktrTop, Around.deeper]); omega)
  case un => ((try dsimp only [ktrTop, Around.deeper]); omega)
  intro g9 h9 tk9 e9 d9 D9 ta9 tb9 tc9 va9 vb9 u19 u29 FG9 R9 U9
  (try k_sweep)
  k_steps
  refine' ret _ _ _ _ _ _ _ _ _ _ _ _ _ ?fr (RaisedE.sub ?rr ?ss) ?uu
  case rr => assumption
  case uu => assumption
  case fr => k_asm
  case ss => walk_at "MINE sub"
theorem S_add_neg_a : ∀ x, S_add_neg_P x := pk_all e_37 S_add_neg_c
theorem e_38 : cc = k_38 := pk_next e_37 S_add_neg_a
theorem S_add_neg {prog w p loose mean mg mb dp un gd cn cs a ccd cl outer A₀ base h₀ L m s Q E tl sd gl x xd wl tg ta tm tw t1 t2 t3 t4 t5 tc n ng vs gs q g c many k osd pv al} : S_add_neg_S prog w p loose mean mg mb dp un gd cn cs a ccd cl outer A₀ base h₀ L m s Q E tl sd gl x xd wl tg ta tm tw t1 t2 t3 t4 t5 tc n ng vs gs q g c many k osd pv al :=
  S_add_neg_a (prog, w, p, loose, mean, mg, mb, dp, un, gd, cn, cs, a, ccd, cl, outer, A₀, base, h₀, L, m, s, Q, E, tl, tg, t1, t2, g, k, wl, many, c_pg, sd, ta, t3, osd, tm, tw, t4, t5, al, gl, n, vs, x, xd, q, c_pd, c_hl, c_dc, c_t6, c_nt, c_n1, c_n3, c_cnt, c_hs, c_ws, c_held, c_rows, c_oc, c_TT, c_z, c_fr, c_st, c_word, c_pl, tc, c, c_gl_, ng, gs, pv, cc.2.2.2.2.2.2.2.2.2.2.2.2.2.2.2.2.2.2.2.2.2.2.2.2.2.2.2.2.2.2.2.2.2.2.2.2.2.2.2.2.2.2.2.2.2.2.2.2.2.2.2.2.2.2.2.2.2.2.2.2.2.2.2.2.2.2.2.2.2.2.2.2.2)
theorem S_add_pos_c : S_add_pos_S c_prog c_w c_p c_loose c_mean c_mg c_mb c_dp c_un c_gd c_cn c_cs c_a c_ccd c_cl c_outer c_A₀ c_base c_h₀ c_L c_m c_s c_Q c_E c_tl c_sd c_gl c_x c_xd c_wl c_tg c_ta c_tm c_tw c_t1 c_t2 c_t3 c_t4 c_t5 c_tc c_n c_ng c_vs c_gs c_q c_g c_c c_many c_k c_osd c_pv c_al := by
  refine' (?g : ∀ prog w p loose mean mg mb dp un gd cn cs a ccd cl outer A₀ base h₀ L m s Q E tl sd gl x xd wl tg ta tm tw t1 t2 t3 t4 t5 tc n ng vs gs q g c many k osd pv al, S_add_pos_S prog w p loose mean mg mb dp un gd cn cs a ccd cl outer A₀ base h₀ L m s Q E tl sd gl x xd wl tg ta tm tw t1 t2 t3 t4 t5 tc n ng vs gs q g c many k osd pv al) c_prog c_w c_p c_loose c_mean c_mg c_mb c_dp c_un c_gd c_cn c_cs c_a c_ccd c_cl c_outer c_A₀ c_base c_h₀ c_L c_m c_s c_Q c_E c_tl c_sd c_gl c_x c_xd c_wl c_tg c_ta c_tm c_tw c_t1 c_t2 c_t3 c_t4 c_t5 c_tc c_n c_ng c_vs c_gs c_q c_g c_c c_many c_k c_osd c_pv c_al
  intros prog w p loose mean mg mb dp un gd cn cs a ccd cl outer A₀ base h₀ L m s Q E tl sd gl x xd wl tg ta tm tw t1 t2 t3 t4 t5 tc n ng vs gs q g c many k osd pv al
  intros B F X T hk N hsd hq hnd hsep hlen hk0 hk4 hgx hz hz2 hdp hun ret
  simp only [List.forall_mem_cons] at hsep
  obtain ⟨s0, s5, s4, s1, s2, _⟩ := hsep
  have hnd3 : [x, xd, wl].Nodup := (List.nodup_cons.mp (List.nodup_cons.mp hnd).2).2
  simp only [List.nodup_cons, List.mem_cons, List.not_mem_nil, or_false, not_or, List.nodup_nil, and_true, not_false_eq_true] at hnd
  obtain ⟨⟨e1, e2, e3, e4⟩, ⟨d1, d2, d3⟩, ⟨d5, d6⟩, d8⟩ := hnd
  walk_at "MINE enter"
  (repeat ((fail_if_success (with_reducible show wpAny _ _ (call (Value.ref 193) _) _ _ _)); first | (k_unfold; (try dsimp only)) | walk1 | (dsimp only; walk1) | (leave1; walk_say "STEP leave1"; (try dsimp only))))
  k_dflt (refine' W_add_pos ?B ?F ?X ?T ?hk (pulls3 ?N ?t1 ?t2 ?t3) ?q ?nd ?s1 ?s2 ?l1 ?h0 ?h1 ?dp ?un ?_)
  case B => k_asm
  case F => k_asm
  case X => k_asm
  case T => k_asm
  case hk => exact rfl
  case N => k_asm
  case t1 => walk_at "MINE pull"
  case t2 => walk_at "MINE pull"
  case t3 => walk_at "MINE pull"
  case h0 => first | k_asm | exact rfl
  case h1 => first | k_asm | exact rfl
  case q => walk_at "MINE lreads"
  case nd => walk_at "MINE nodup"
  case s1 => k_all
  case s2 => k_all
  case l1 => k_asm
  case dp => ((try dsimp only [ktrTop, Around.deeper]); omega)
  case un => ((try dsimp only [ktrTop, Around.deeper]); omega)
  intro h' tk' l' u' F' N' fr'
  (try k_sweep)
  k_steps
  refine' ret _ _ _ _ _ _ _ _ _ _ ?f (news_sub ?n ?s) ?q ?us ?nl ?nr ?lr ?nw ?wl ?wr
  case f => k_asm
  case n => k_asm
  case s => walk_at "MINE sub"
  case q => walk_at "MINE lreads"
  case us => walk_at "MINE lreads"
  case nl => walk_at "MINE new"
  case nr => walk_at "MINE newor"
  case lr => k_ne
  case nw => walk_at "MINE newor"
  case wl => k_ne
  case wr => k_ne
theorem S_add_pos_a : ∀ x, S_add_pos_P x := pk_all e_38 S_add_pos_c
theorem e_39 : cc = k_39 := pk_next e_38 S_add_pos_a
theorem S_add_pos {prog w p loose mean mg mb dp un gd cn cs a ccd cl outer A₀ base h₀ L m s Q E tl sd gl x xd wl tg ta tm tw t1 t2 t3 t4 t5 tc n ng vs gs q g c many k osd pv al} : S_add_pos_S prog w p loose mean mg mb dp un gd cn cs a ccd cl outer A₀ base h₀ L m s Q E tl sd gl x xd wl tg ta tm tw t1 t2 t3 t4 t5 tc n ng vs gs q g c many k osd pv al :=
  S_add_pos_a (prog, w, p, loose, mean, mg, mb, dp, un, gd, cn, cs, a, ccd, cl, outer, A₀, base, h₀, L, m, s, Q, E, tl, tg, t1, t2, g, k, wl, many, c_pg, sd, ta, t3, osd, tm, tw, t4, t5, al, gl, n, vs, x, xd, q, c_pd, c_hl, c_dc, c_t6, c_nt, c_n1, c_n3, c_cnt, c_hs, c_ws, c_held, c_rows, c_oc, c_TT, c_z, c_fr, c_st, c_word, c_pl, tc, c, c_gl_, ng, gs, pv, cc.2.2.2.2.2.2.2.2.2.2.2.2.2.2.2.2.2.2.2.2.2.2.2.2.2.2.2.2.2.2.2.2.2.2.2.2.2.2.2.2.2.2.2.2.2.2.2.2.2.2.2.2.2.2.2.2.2.2.2.2.2.2.2.2.2.2.2.2.2.2.2.2.2)
theorem S_add_zero_c : S_add_zero_S c_prog c_w c_p c_loose c_mean c_mg c_mb c_dp c_un c_gd c_cn c_cs c_a c_ccd c_cl c_outer c_A₀ c_base c_h₀ c_L c_m c_s c_Q c_E c_tl c_sd c_gl c_x c_xd c_wl c_tg c_ta c_tm c_tw c_t1 c_t2 c_t3 c_t4 c_t5 c_tc c_n c_ng c_vs c_gs c_q c_g c_c c_many c_k c_osd c_pv c_al := by
  refine' (?g : ∀ prog w p loose mean mg mb dp un gd cn cs a ccd cl outer A₀ base h₀ L m s Q E tl sd gl x xd wl tg ta tm tw t1 t2 t3 t4 t5 tc n ng vs gs q g c many k osd pv al, S_add_zero_S prog w p loose mean mg mb dp un gd cn cs a ccd cl outer A₀ base h₀ L m s Q E tl sd gl x xd wl tg ta tm tw t1 t2 t3 t4 t5 tc n ng vs gs q g c many k osd pv al) c_prog c_w c_p c_loose c_mean c_mg c_mb c_dp c_un c_gd c_cn c_cs c_a c_ccd c_cl c_outer c_A₀ c_base c_h₀ c_L c_m c_s c_Q c_E c_tl c_sd c_gl c_x c_xd c_wl c_tg c_ta c_tm c_tw c_t1 c_t2 c_t3 c_t4 c_t5 c_tc c_n c_ng c_vs c_gs c_q c_g c_c c_many c_k c_osd c_pv c_al
  intros prog w p loose mean mg mb dp un gd cn cs a ccd cl outer A₀ base h₀ L m s Q E tl sd gl x xd wl tg ta tm tw t1 t2 t3 t4 t5 tc n ng vs gs q g c many k osd pv al
  intros B F X T hk N hsd hq hnd hsep hlen hk0 hk4 hgx hz hz2 hdp hun ret
  simp only [List.forall_mem_cons] at hsep
  obtain ⟨s0, s5, s4, s1, s2, _⟩ := hsep
  have hnd3 : [x, xd, wl].Nodup := (List.nodup_cons.mp (List.nodup_cons.mp hnd).2).2
  simp only [List.nodup_cons, List.mem_cons, List.not_mem_nil, or_false, not_or, List.nodup_nil, and_true, not_false_eq_true] at hnd
  obtain ⟨⟨e1, e2, e3, e4⟩, ⟨d1, d2, d3⟩, ⟨d5, d6⟩, d8⟩ := hnd
  walk_at "MINE enter"
  (repeat ((fail_if_success (with_reducible show wpAny _ _ (call (Value.ref 193) _) _ _ _)); first | (k_unfold; (try dsimp only)) | walk1 | (dsimp only; walk1) | (leave1; walk_say "STEP leave1"; (try dsimp only))))
  k_dflt (refine' W_add_zero ?B ?F ?X ?T ?hk (pulls3 ?N ?t1 ?t2 ?t3) ?q ?nd ?s1 ?s2 ?l1 ?h0 ?h1 ?dp ?un ?_)
  case B => k_asm
  case F => k_asm
  case X => k_asm
  case T => k_asm
  case hk => exact rfl
  case N => k_asm
  case t1 => walk_at "MINE pull"
  case t2 => walk_at "MINE pull"
  case t3 => walk_at "MINE pull"
  case h0 => first | k_asm | exact rfl
  case h1 => first | k_asm | exact rfl
  case q => walk_at "MINE lreads"
  case nd => walk_at "MINE nodup"
  case s1 => k_all
  case s2 => k_all
  case l1 => k_asm
  case dp => ((try dsimp only [ktrTop, Around.deeper]); omega)
  case un => ((try dsimp only [ktrTop, Around.deeper]); omega)
  intro h' tk' l' u' F' N' fr'
  (try k_sweep)
  k_steps
  refine' ret _ _ _ _ _ _ _ _ _ _ ?f (news_sub ?n ?s) ?q ?us ?nl ?nr ?lr ?nw ?wl ?wr
  case f => k_asm
  case n => k_asm
  case s => walk_at "MINE sub"
  case q => walk_at "MINE lreads"
  case us => walk_at "MINE lreads"
  case nl => walk_at "MINE new"
  case nr => walk_at "MINE newor"
  case lr => k_ne
  case nw => walk_at "MINE newor"
  case wl => k_ne
  case wr => k_ne
theorem S_add_zero_a : ∀ x, S_add_zero_P x := pk_all e_39 S_add_zero_c
theorem e_40 : cc = k_40 := pk_next e_39 S_add_zero_a
theorem S_add_zero {prog w p loose mean mg mb dp un gd cn cs a ccd cl outer A₀ base h₀ L m s Q E tl sd gl x xd wl tg ta tm tw t1 t2 t3 t4 t5 tc n ng vs gs q g c many k osd pv al} : S_add_zero_S prog w p loose mean mg mb dp un gd cn cs a ccd cl outer A₀ base h₀ L m s Q E tl sd gl x xd wl tg ta tm tw t1 t2 t3 t4 t5 tc n ng vs gs q g c many k osd pv al :=
  S_add_zero_a (prog, w, p, loose, mean, mg, mb, dp, un, gd, cn, cs, a, ccd, cl, outer, A₀, base, h₀, L, m, s, Q, E, tl, tg, t1, t2, g, k, wl, many, c_pg, sd, ta, t3, osd, tm, tw, t4, t5, al, gl, n, vs, x, xd, q, c_pd, c_hl, c_dc, c_t6, c_nt, c_n1, c_n3, c_cnt, c_hs, c_ws, c_held, c_rows, c_oc, c_TT, c_z, c_fr, c_st, c_word, c_pl, tc, c, c_gl_, ng, gs, pv, cc.2.2.2.2.2.2.2.2.2.2.2.2.2.2.2.2.2.2.2.2.2.2.2.2.2.2.2.2.2.2.2.2.2.2.2.2.2.2.2.2.2.2.2.2.2.2.2.2.2.2.2.2.2.2.2.2.2.2.2.2.2.2.2.2.2.2.2.2.2.2.2.2.2)
theorem S_wait_zero_c : S_wait_zero_S c_prog c_w c_p c_loose c_mean c_mg c_mb c_dp c_un c_gd c_cn c_cs c_a c_ccd c_cl c_outer c_A₀ c_base c_h₀ c_L c_m c_s c_Q c_E c_tl c_sd c_gl c_x c_xd c_wl c_tg c_ta c_tm c_tw c_t1 c_t2 c_t3 c_t4 c_t5 c_tc c_n c_ng c_vs c_gs c_q c_g c_c c_many c_k c_osd c_pv c_al := by
  refine' (?g : ∀ prog w p loose mean mg mb dp un gd cn cs a ccd cl outer A₀ base h₀ L m s Q E tl sd gl x xd wl tg ta tm tw t1 t2 t3 t4 t5 tc n ng vs gs q g c many k osd pv al, S_wait_zero_S prog w p loose mean mg mb dp un gd cn cs a ccd cl outer A₀ base h₀ L m s Q E tl sd gl x xd wl tg ta tm tw t1 t2 t3 t4 t5 tc n ng vs gs q g c many k osd pv al) c_prog c_w c_p c_loose c_mean c_mg c_mb c_dp c_un c_gd c_cn c_cs c_a c_ccd c_cl c_outer c_A₀ c_base c_h₀ c_L c_m c_s c_Q c_E c_tl c_sd c_gl c_x c_xd c_wl c_tg c_ta c_tm c_tw c_t1 c_t2 c_t3 c_t4 c_t5 c_tc c_n c_ng c_vs c_gs c_q c_g c_c c_many c_k c_osd c_pv c_al
  intros prog w p loose mean mg mb dp un gd cn cs a ccd cl outer A₀ base h₀ L m s Q E tl sd gl x xd wl tg ta tm tw t1 t2 t3 t4 t5 tc n ng vs gs q g c many k osd pv al
  intros B F X T hk N hsd hq hnd hsep hlen hk0 hk4 hgx hz hdp hun ret
  simp only [List.forall_mem_cons] at hsep
  obtain ⟨s0, s5, s4, s1, s2, _⟩ := hsep
  have hnd3 : [x, xd, wl].Nodup := (List.nodup_cons.mp (List.nodup_cons.mp hnd).2).2
  simp only [List.nodup_cons, List.mem_cons, List.not_mem_nil, or_false, not_or, List.nodup_nil, and_true, not_false_eq_true] at hnd
  obtain ⟨⟨e1, e2, e3, e4⟩, ⟨d1, d2, d3⟩, ⟨d5, d6⟩, d8⟩ := hnd
  walk_at "MINE enter"
  (repeat ((fail_if_success (with_reducible show wpAny _ _ (call (Value.ref 207) _) _ _ _)); first | (k_unfold; (try dsimp only)) | walk1 | (dsimp only; walk1) | (leave1; walk_say "STEP leave1"; (try dsimp only))))
  k_dflt (refine' W_wait_zero ?B ?F ?X ?T ?hk (pulls3 ?N ?t1 ?t2 ?t3) ?q ?nd ?s1 ?s2 ?l1 ?h0 ?dp ?un ?_)
  case B => k_asm
  case F => k_asm
  case X => k_asm
  case T => k_asm
  case hk => exact rfl
  case N => k_asm
  case t1 => walk_at "MINE pull"
  case t2 => walk_at "MINE pull"
  case t3 => walk_at "MINE pull"
  case h0 => first | k_asm | exact rfl
  case q => walk_at "MINE lreads"
  case nd => walk_at "MINE nodup"
  case s1 => k_all
  case s2 => k_all
  case l1 => k_asm
  case dp => ((try dsimp only [ktrTop, Around.deeper]); omega)
  case un => ((try dsimp only [ktrTop, Around.deeper]); omega)
  intro h' tk' F' N'
  (try k_sweep)
  k_steps
  refine' ret _ _ _ _ _ _ _ _ _ ?f (news_sub ?n ?s) ?q ?us ?nl ?nr ?lr ?nw ?wl ?wr
  case f => k_asm
  case n => k_asm
  case s => walk_at "MINE sub"
  case q => walk_at "MINE lreads"
  case us => walk_at "MINE lreads"
  case nl => walk_at "MINE new"
  case nr => walk_at "MINE newor"
  case lr => k_ne
  case nw => walk_at "MINE newor"
  case wl => k_ne
  case wr => k_ne
theorem S_wait_zero_a : ∀ x, S_wait_zero_P x := pk_all e_40 S_wait_zero_c
theorem e_41 : cc = k_41 := pk_next e_40 S_wait_zero_a
theorem S_wait_zero {prog w p loose mean mg mb dp un gd cn cs a ccd cl outer A₀ base h₀ L m s Q E tl sd gl x xd wl tg ta tm tw t1 t2 t3 t4 t5 tc n ng vs gs q g c many k osd pv al} : S_wait_zero_S prog w p loose mean mg mb dp un gd cn cs a ccd cl outer A₀ base h₀ L m s Q E tl sd gl x xd wl tg ta tm tw t1 t2 t3 t4 t5 tc n ng vs gs q g c many k osd pv al :=
  S_wait_zero_a (prog, w, p, loose, mean, mg, mb, dp, un, gd, cn, cs, a, ccd, cl, outer, A₀, base, h₀, L, m, s, Q, E, tl, tg, t1, t2, g, k, wl, many, c_pg, sd, ta, t3, osd, tm, tw, t4, t5, al, gl, n, vs, x, xd, q, c_pd, c_hl, c_dc, c_t6, c_nt, c_n1, c_n3, c_cnt, c_hs, c_ws, c_held, c_rows, c_oc, c_TT, c_z, c_fr, c_st, c_word, c_pl, tc, c, c_gl_, ng, gs, pv, cc.2.2.2.2.2.2.2.2.2.2.2.2.2.2.2.2.2.2.2.2.2.2.2.2.2.2.2.2.2.2.2.2.2.2.2.2.2.2.2.2.2.2.2.2.2.2.2.2.2.2.2.2.2.2.2.2.2.2.2.2.2.2.2.2.2.2.2.2.2.2.2.2.2)
theorem S_wait_non_c : S_wait_non_S c_prog c_w c_p c_loose c_mean c_mg c_mb c_dp c_un c_gd c_cn c_cs c_a c_ccd c_cl c_outer c_A₀ c_base c_h₀ c_L c_m c_s c_Q c_E c_tl c_sd c_gl c_x c_xd c_wl c_tg c_ta c_tm c_tw c_t1 c_t2 c_t3 c_t4 c_t5 c_tc c_n c_ng c_vs c_gs c_q c_g c_c c_many c_k c_osd c_pv c_al := by
  refine' (?g : ∀ prog w p loose mean mg mb dp un gd cn cs a ccd cl outer A₀ base h₀ L m s Q E tl sd gl x xd wl tg ta tm tw t1 t2 t3 t4 t5 tc n ng vs gs q g c many k osd pv al, S_wait_non_S prog w p loose mean mg mb dp un gd cn cs a ccd cl outer A₀ base h₀ L m s Q E tl sd gl x xd wl tg ta tm tw t1 t2 t3 t4 t5 tc n ng vs gs q g c many k osd pv al) c_prog c_w c_p c_loose c_mean c_mg c_mb c_dp c_un c_gd c_cn c_cs c_a c_ccd c_cl c_outer c_A₀ c_base c_h₀ c_L c_m c_s c_Q c_E c_tl c_sd c_gl c_x c_xd c_wl c_tg c_ta c_tm c_tw c_t1 c_t2 c_t3 c_t4 c_t5 c_tc c_n c_ng c_vs c_gs c_q c_g c_c c_many c_k c_osd c_pv c_al
  intros prog w p loose mean mg mb dp un gd cn cs a ccd cl outer A₀ base h₀ L m s Q E tl sd gl x xd wl tg ta tm tw t1 t2 t3 t4 t5 tc n ng vs gs q g c many k osd pv al
  intros B F X T hk N hsd hq hnd hsep hlen hk0 hk4 hgx hz hdp hun ret
  simp only [List.forall_mem_cons] at hsep
  obtain ⟨s0, s5, s4, s1, s2, _⟩ := hsep
  have hnd3 : [x, xd, wl].Nodup := (List.nodup_cons.mp (List.nodup_cons.mp hnd).2).2
  simp only [List.nodup_cons, List.mem_cons, List.not_mem_nil, or_false, not_or, List.nodup_nil, and_true, not_false_eq_true] at hnd
  obtain ⟨⟨e1, e2, e3, e4⟩, ⟨d1, d2, d3⟩, ⟨d5, d6⟩, d8⟩ := hnd
  walk_at "MINE enter"
  (repeat ((fail_if_success (with_reducible show wpAny _ _ (call (Value.ref 207) _) _ _ _)); first | (k_unfold; (try dsimp only)) | walk1 | (dsimp only; walk1) | (leave1; walk_say "STEP leave1"; (try dsimp only))))
  k_dflt (refine' W_wait_non ?B ?F ?X ?T ?hk (pulls3 ?N ?t1 ?t2 ?t3) ?q ?nd ?s1 ?s2 ?l1 ?h0 ?dp ?un ?_)
  case B => k_asm
  case F => k_asm
  case X => k_asm
  case T => k_asm
  case hk => exact rfl
  case N => k_asm
  case t1 => walk_at "MINE pull"
  case t2 => walk_at "MINE pull"
  case t3 => walk_at "MINE pull"
  case h0 => first | k_asm | exact rfl
  case q => walk_at "MINE lreads"
  case nd => walk_at "MINE nodup"
  case s1 => k_all
  case s2 => k_all
  case l1 => k_asm
  case dp => ((try dsimp only [ktrTop, Around.deeper]); omega)
  case un => ((try dsimp only [ktrTop, Around.deeper]); omega)
  intro h' tk' F' N'
  (try k_sweep)
  k_steps
  refine' ret _ _ _ _ _ _ _ _ _ ?f (news_sub ?n ?s) ?q ?us ?nl ?nr ?lr ?nw ?wl ?wr
  case f => k_asm
  case n => k_asm
  case s => walk_at "MINE sub"
  case q => walk_at "MINE lreads"
  case us => walk_at "MINE lreads"
  case nl => walk_at "MINE new"
  case nr => walk_at "MINE newor"
  case lr => k_ne
  case nw => walk_at "MINE newor"
  case wl => k_ne
  case wr => k_ne
theorem S_wait_non_a : ∀ x, S_wait_non_P x := pk_all e_41 S_wait_non_c
theorem e_42 : cc = k_42 := pk_next e_41 S_wait_non_a
theorem S_wait_non {prog w p loose mean mg mb dp un gd cn cs a ccd cl outer A₀ base h₀ L m s Q E tl sd gl x xd wl tg ta tm tw t1 t2 t3 t4 t5 tc n ng vs gs q g c many k osd pv al} : S_wait_non_S prog w p loose mean mg mb dp un gd cn cs a ccd cl outer A₀ base h₀ L m s Q E tl sd gl x xd wl tg ta tm tw t1 t2 t3 t4 t5 tc n ng vs gs q g c many k osd pv al :=
  S_wait_non_a (prog, w, p, loose, mean, mg, mb, dp, un, gd, cn, cs, a, ccd, cl, outer, A₀, base, h₀, L, m, s, Q, E, tl, tg, t1, t2, g, k, wl, many, c_pg, sd, ta, t3, osd, tm, tw, t4, t5, al, gl, n, vs, x, xd, q, c_pd, c_hl, c_dc, c_t6, c_nt, c_n1, c_n3, c_cnt, c_hs, c_ws, c_held, c_rows, c_oc, c_TT, c_z, c_fr, c_st, c_word, c_pl, tc, c, c_gl_, ng, gs, pv, cc.2.2.2.2.2.2.2.2.2.2.2.2.2.2.2.2.2.2.2.2.2.2.2.2.2.2.2.2.2.2.2.2.2.2.2.2.2.2.2.2.2.2.2.2.2.2.2.2.2.2.2.2.2.2.2.2.2.2.2.2.2.2.2.2.2.2.2.2.2.2.2.2.2)
end
-- QK
section
theorem queued_ok_c : queued_ok_S c_prog c_w c_p c_loose c_mean c_mg c_mb c_dp c_un c_gd c_cn c_cs c_a c_ccd c_cl c_outer c_A₀ c_base c_h₀ c_L c_m c_s c_Q c_E c_tl c_sd c_pg c_gl c_t1 c_t2 c_t3 c_z c_osd c_al c_fr c_st c_tg c_ta c_tm c_tw c_g c_k c_many c_word c_b c_out c_st' := by
  refine' (?g : ∀ prog w p loose mean mg mb dp un gd cn cs a ccd cl outer A₀ base h₀ L m s Q E tl sd pg gl t1 t2 t3 z osd al fr st tg ta tm tw g k many word b out st', queued_ok_S prog w p loose mean mg mb dp un gd cn cs a ccd cl outer A₀ base h₀ L m s Q E tl sd pg gl t1 t2 t3 z osd al fr st tg ta tm tw g k many word b out st') c_prog c_w c_p c_loose c_mean c_mg c_mb c_dp c_un c_gd c_cn c_cs c_a c_ccd c_cl c_outer c_A₀ c_base c_h₀ c_L c_m c_s c_Q c_E c_tl c_sd c_pg c_gl c_t1 c_t2 c_t3 c_z c_osd c_al c_fr c_st c_tg c_ta c_tm c_tw c_g c_k c_many c_word c_b c_out c_st'
  intros prog w p loose mean mg mb dp un gd cn cs a ccd cl outer A₀ base h₀ L m s Q E tl sd pg gl t1 t2 t3 z osd al fr st tg ta tm tw g k many word b out st'
  intros B F X T hk N hsd hS hA hA0 hsf hsm hz hstep hdp hun ret
  cases hstep with
  | lock_free h0 h2 ho =>
    obtain ⟨gs, ng, R, g9, P9, cov⟩ := q_pre N hS hA hA0 hsf hsm hz h0 (by omega)
    obtain ⟨at9, ok9, N9, nd9, sep9, len9, back9⟩ := P9
    have hk9 : ((k.toNat : Nat) : Int) = k := by omega
    obtain ⟨x, xd, wq, gc, fld, val, u4, u5, nq, vs⟩ := g9
    obtain ⟨rfl, rfl, t9, e9⟩ := ok9.lock (by omega)
    have q9 := ok9.que
    dsimp only at e9 q9 N9 nd9 sep9 len9 at9
    rw [hk9] at e9 q9
    subst e9
    rw [ho, optVal_none] at N9
    refine' S_lock_free B F X T hk N9 hsd q9 nd9 sep9 len9 h0 (by omega) at9 hdp hun ?_
    intro h' tk' l r us nr W vs' n' F' N'' rq rus nl nr2 lr nw wl wr
    obtain ⟨tl', N3, S3, A3, f1, f2, f3, f4⟩ := back9 ⟨x, xd, W, 168, "owner", (.int g tg), u4, u5, n', vs'⟩ { st with o := upd st.o k (some g) } h' l r _ _ rfl rfl rfl rfl rfl ⟨fun _ => ⟨rfl, rfl, ⟨tg, by rw [hk9]; simp only [upd_same]; rfl⟩⟩, fun h => absurd (by omega) h, by rw [hk9]; exact rq⟩ (fun i h => by first | rfl | exact upd_other h) (fun i h => by first | rfl | exact upd_other h) (fun i h => by first | rfl | exact upd_other h) nl nr2 nw wl wr N''
    exact ret _ _ _ _ _ _ _ F' N3 S3 rus A3 f1 f2 lr f3 f4
  | lock_held h0 h2 ho hc =>
    obtain ⟨gs, ng, R, g9, P9, cov⟩ := q_pre N hS hA hA0 hsf hsm hz h0 (by omega)
    obtain ⟨at9, ok9, N9, nd9, sep9, len9, back9⟩ := P9
    have hk9 : ((k.toNat : Nat) : Int) = k := by omega
    obtain ⟨x, xd, wq, gc, fld, val, u4, u5, nq, vs⟩ := g9
    obtain ⟨rfl, rfl, t9, e9⟩ := ok9.lock (by omega)
    have q9 := ok9.que
    dsimp only at e9 q9 N9 nd9 sep9 len9 at9
    rw [hk9] at e9 q9
    subst e9
    rw [ho, optVal_some] at N9
    refine' S_lock_held B F X T hk N9 hsd q9 nd9 sep9 len9 h0 (by omega) at9 hc hdp hun ?_
    intro h' tk' l r us nr W vs' n' F' N'' rq rus nl nr2 lr nw wl wr
    obtain ⟨tl', N3, S3, A3, f1, f2, f3, f4⟩ := back9 ⟨x, xd, W, 168, "owner", (.int _ t9), u4, u5, n', vs'⟩ { st with q := upd st.q k (st.q k ++ [g]) } h' l r _ _ rfl rfl rfl rfl rfl ⟨fun _ => ⟨rfl, rfl, ⟨t9, by rw [hk9]; simp only [ho]; rfl⟩⟩, fun h => absurd (by omega) h, by rw [hk9]; simp only [upd_same]; exact rq⟩ (fun i h => by first | rfl | exact upd_other h) (fun i h => by first | rfl | exact upd_other h) (fun i h => by first | rfl | exact upd_other h) nl nr2 nw wl wr N''
    exact ret _ _ _ _ _ _ _ F' N3 S3 rus A3 f1 f2 lr f3 f4
  | unl_none h0 h2 ho hq0 =>
    obtain ⟨gs, ng, R, g9, P9, cov⟩ := q_pre N hS hA hA0 hsf hsm hz h0 (by omega)
    obtain ⟨at9, ok9, N9, nd9, sep9, len9, back9⟩ := P9
    have hk9 : ((k.toNat : Nat) : Int) = k := by omega
    obtain ⟨x, xd, wq, gc, fld, val, u4, u5, nq, vs⟩ := g9
    obtain ⟨rfl, rfl, t9, e9⟩ := ok9.lock (by omega)
    have q9 := ok9.que
    dsimp only at e9 q9 N9 nd9 sep9 len9 at9
    rw [hk9] at e9 q9
    subst e9
    rw [ho, optVal_some] at N9
    have hv0 : vs = [] := by
      rw [hq0] at q9
      have := q9.length_eq (h := default) (fun _ h => nomatch h)
      exact List.length_eq_zero_iff.mp (by simpa using this)
    refine' S_unl_none B F X T hk (hv0 ▸ N9) hsd (q := st.q k) q9 nd9 sep9 len9 h0 (by omega) at9 hv0 hdp hun ?_
    intro h' tk' l r us nr W vs' n' F' N'' rq rus nl nr2 lr nw wl wr
    obtain ⟨tl', N3, S3, A3, f1, f2, f3, f4⟩ := back9 ⟨x, xd, W, 168, "owner", .none, u4, u5, n', vs'⟩ { st with o := upd st.o k none } h' l r _ _ rfl rfl rfl rfl rfl ⟨fun _ => ⟨rfl, rfl, ⟨t9, by rw [hk9]; simp only [upd_same]; rfl⟩⟩, fun h => absurd (by omega) h, by rw [hk9]; simp only [hq0]; exact rq⟩ (fun i h => by first | rfl | exact upd_other h) (fun i h => by first | rfl | exact upd_other h) (fun i h => by first | rfl | exact upd_other h) nl nr2 nw wl wr N''
    exact ret _ _ _ _ _ _ _ F' N3 S3 rus A3 f1 f2 lr f3 f4
  | @unl_first _ _ _ r0 qs0 h0 h2 ho hq0 =>
    obtain ⟨gs, ng, R, g9, P9, cov⟩ := q_pre N hS hA hA0 hsf hsm hz h0 (by omega)
    obtain ⟨at9, ok9, N9, nd9, sep9, len9, back9⟩ := P9
    have hk9 : ((k.toNat : Nat) : Int) = k := by omega
    obtain ⟨x, xd, wq, gc, fld, val, u4, u5, nq, vs⟩ := g9
    obtain ⟨rfl, rfl, t9, e9⟩ := ok9.lock (by omega)
    have q9 := ok9.que
    dsimp only at e9 q9 N9 nd9 sep9 len9 at9
    rw [hk9] at e9 q9
    subst e9
    rw [ho, optVal_some] at N9
    rw [hq0] at q9
    obtain ⟨t8, us8, rfl, r8⟩ := LReads.head_int q9
    refine' S_unl_first B F X T hk N9 hsd q9 nd9 sep9 len9 h0 (by omega) at9 rfl rfl r8 hdp hun ?_
    intro h' tk' l r us nr W vs' n' F' N'' rq rus nl nr2 lr nw wl wr
    obtain ⟨tl', N3, S3, A3, f1, f2, f3, f4⟩ := back9 ⟨x, xd, W, 168, "owner", (.int _ t8), u4, u5, n', vs'⟩ { st with o := upd st.o k (some r0), q := upd st.q k qs0 } h' l r _ _ rfl rfl rfl rfl rfl ⟨fun _ => ⟨rfl, rfl, ⟨t8, by rw [hk9]; simp only [upd_same]; rfl⟩⟩, fun h => absurd (by omega) h, by rw [hk9]; simp only [upd_same]; exact rq⟩ (fun i h => by first | rfl | exact upd_other h) (fun i h => by first | rfl | exact upd_other h) (fun i h => by first | rfl | exact upd_other h) nl nr2 nw wl wr N''
    exact ret _ _ _ _ _ _ _ F' N3 S3 rus A3 f1 f2 lr f3 f4
  | add_pos h2 h4 hz1 hz2 =>
    have h0 : 0 ≤ k := by omega
    obtain ⟨gs, ng, R, g9, P9, cov⟩ := q_pre N hS hA hA0 hsf hsm hz h0 h4
    obtain ⟨at9, ok9, N9, nd9, sep9, len9, back9⟩ := P9
    have hk9 : ((k.toNat : Nat) : Int) = k := by omega
    obtain ⟨x, xd, wq, gc, fld, val, u4, u5, nq, vs⟩ := g9
    obtain ⟨rfl, rfl, t9, e9⟩ := ok9.group (by omega)
    have q9 := ok9.que
    dsimp only at e9 q9 N9 nd9 sep9 len9 at9
    rw [hk9] at e9 q9
    subst e9
    refine' S_add_pos B F X T hk N9 hsd q9 nd9 sep9 len9 h0 (by omega) at9 hz1 hz2 hdp hun ?_
    intro h' tk' l r us nr W vs' n' u9 F' N'' rq rus nl nr2 lr nw wl wr
    obtain ⟨tl', N3, S3, A3, f1, f2, f3, f4⟩ := back9 ⟨x, xd, W, 210, "count", (.int (st.c k + many) u9), u4, u5, n', vs'⟩ { st with c := upd st.c k (st.c k + many) } h' l r _ _ rfl rfl rfl rfl rfl ⟨fun h => absurd h (by omega), fun _ => ⟨rfl, rfl, ⟨u9, by rw [hk9]; simp only [upd_same]⟩⟩, by rw [hk9]; exact rq⟩ (fun i h => by first | rfl | exact upd_other h) (fun i h => by first | rfl | exact upd_other h) (fun i h => by first | rfl | exact upd_other h) nl nr2 nw wl wr N''
    exact ret _ _ _ _ _ _ _ F' N3 S3 rus A3 f1 f2 lr f3 f4
  | add_zero h2 h4 hz1 hz2 =>
    have h0 : 0 ≤ k := by omega
    obtain ⟨gs, ng, R, g9, P9, cov⟩ := q_pre N hS hA hA0 hsf hsm hz h0 h4
    obtain ⟨at9, ok9, N9, nd9, sep9, len9, back9⟩ := P9
    have hk9 : ((k.toNat : Nat) : Int) = k := by omega
    obtain ⟨x, xd, wq, gc, fld, val, u4, u5, nq, vs⟩ := g9
    obtain ⟨rfl, rfl, t9, e9⟩ := ok9.group (by omega)
    have q9 := ok9.que
    dsimp only at e9 q9 N9 nd9 sep9 len9 at9
    rw [hk9] at e9 q9
    subst e9
    refine' S_add_zero B F X T hk N9 hsd q9 nd9 sep9 len9 h0 (by omega) at9 hz1 hz2 hdp hun ?_
    intro h' tk' l r us nr W vs' n' u9 F' N'' rq rus nl nr2 lr nw wl wr
    obtain ⟨tl', N3, S3, A3, f1, f2, f3, f4⟩ := back9 ⟨x, xd, W, 210, "count", (.int (st.c k + many) u9), u4, u5, n', vs'⟩ { st with c := upd st.c k (st.c k + many), q := upd st.q k [] } h' l r _ _ rfl rfl rfl rfl rfl ⟨fun h => absurd h (by omega), fun _ => ⟨rfl, rfl, ⟨u9, by rw [hk9]; simp only [upd_same]⟩⟩, by rw [hk9]; simp only [upd_same]; exact rq⟩ (fun i h => by first | rfl | exact upd_other h) (fun i h => by first | rfl | exact upd_other h) (fun i h => by first | rfl | exact upd_other h) nl nr2 nw wl wr N''
    exact ret _ _ _ _ _ _ _ F' N3 S3 rus A3 f1 f2 lr f3 f4
  | wait_zero h2 h4 hz1 =>
    have h0 : 0 ≤ k := by omega
    obtain ⟨gs, ng, R, g9, P9, cov⟩ := q_pre N hS hA hA0 hsf hsm hz h0 h4
    obtain ⟨at9, ok9, N9, nd9, sep9, len9, back9⟩ := P9
    have hk9 : ((k.toNat : Nat) : Int) = k := by omega
    obtain ⟨x, xd, wq, gc, fld, val, u4, u5, nq, vs⟩ := g9
    obtain ⟨rfl, rfl, t9, e9⟩ := ok9.group (by omega)
    have q9 := ok9.que
    dsimp only at e9 q9 N9 nd9 sep9 len9 at9
    rw [hk9] at e9 q9
    subst e9
    refine' S_wait_zero B F X T hk N9 hsd q9 nd9 sep9 len9 h0 (by omega) at9 hz1 hdp hun ?_
    intro h' tk' l r us nr W vs' n' F' N'' rq rus nl nr2 lr nw wl wr
    obtain ⟨tl', N3, S3, A3, f1, f2, f3, f4⟩ := back9 ⟨x, xd, W, 210, "count", (.int (st.c k) t9), u4, u5, n', vs'⟩ st h' l r _ _ rfl rfl rfl rfl rfl ⟨fun h => absurd h (by omega), fun _ => ⟨rfl, rfl, ⟨t9, by rw [hk9]⟩⟩, by rw [hk9]; exact rq⟩ (fun i h => by first | rfl | exact upd_other h) (fun i h => by first | rfl | exact upd_other h) (fun i h => by first | rfl | exact upd_other h) nl nr2 nw wl wr N''
    exact ret _ _ _ _ _ _ _ F' N3 S3 rus A3 f1 f2 lr f3 f4
  | wait_non h2 h4 hz1 =>
    have h0 : 0 ≤ k := by omega
    obtain ⟨gs, ng, R, g9, P9, cov⟩ := q_pre N hS hA hA0 hsf hsm hz h0 h4
    obtain ⟨at9, ok9, N9, nd9, sep9, len9, back9⟩ := P9
    have hk9 : ((k.toNat : Nat) : Int) = k := by omega
    obtain ⟨x, xd, wq, gc, fld, val, u4, u5, nq, vs⟩ := g9
    obtain ⟨rfl, rfl, t9, e9⟩ := ok9.group (by omega)
    have q9 := ok9.que
    dsimp only at e9 q9 N9 nd9 sep9 len9 at9
    rw [hk9] at e9 q9
    subst e9
    refine' S_wait_non B F X T hk N9 hsd q9 nd9 sep9 len9 h0 (by omega) at9 hz1 hdp hun ?_
    intro h' tk' l r us nr W vs' n' F' N'' rq rus nl nr2 lr nw wl wr
    obtain ⟨tl', N3, S3, A3, f1, f2, f3, f4⟩ := back9 ⟨x, xd, W, 210, "count", (.int (st.c k) t9), u4, u5, n', vs'⟩ { st with q := upd st.q k (st.q k ++ [g]) } h' l r _ _ rfl rfl rfl rfl rfl ⟨fun h => absurd h (by omega), fun _ => ⟨rfl, rfl, ⟨t9, by rw [hk9]⟩⟩, by rw [hk9]; simp only [upd_same]; exact rq⟩ (fun i h => by first | rfl | exact upd_other h) (fun i h => by first | rfl | exact upd_other h) (fun i h => by first | rfl | exact upd_other h) nl nr2 nw wl wr N''
    exact ret _ _ _ _ _ _ _ F' N3 S3 rus A3 f1 f2 lr f3 f4
theorem queued_ok_a : ∀ x, queued_ok_P x := pk_all e_42 queued_ok_c
theorem e_43 : cc = k_43 := pk_next e_42 queued_ok_a
theorem queued_ok {prog w p loose mean mg mb dp un gd cn cs a ccd cl outer A₀ base h₀ L m s Q E tl sd pg gl t1 t2 t3 z osd al fr st tg ta tm tw g k many word b out st'} : queued_ok_S prog w p loose mean mg mb dp un gd cn cs a ccd cl outer A₀ base h₀ L m s Q E tl sd pg gl t1 t2 t3 z osd al fr st tg ta tm tw g k many word b out st' :=
  queued_ok_a (prog, w, p, loose, mean, mg, mb, dp, un, gd, cn, cs, a, ccd, cl, outer, A₀, base, h₀, L, m, s, Q, E, tl, tg, t1, t2, g, k, c_wl, many, pg, sd, ta, t3, osd, tm, tw, c_t4, c_t5, al, gl, c_n, c_vs, c_x, c_xd, c_q, c_pd, c_hl, c_dc, c_t6, c_nt, c_n1, c_n3, c_cnt, c_hs, c_ws, c_held, c_rows, c_oc, c_TT, z, fr, st, word, c_pl, c_tc, c_c, c_gl_, c_ng, c_gs, c_pv, c_to, c_o, b, out, c_tx, c_G, c_al_, c_na, c_as, st', cc.2.2.2.2.2.2.2.2.2.2.2.2.2.2.2.2.2.2.2.2.2.2.2.2.2.2.2.2.2.2.2.2.2.2.2.2.2.2.2.2.2.2.2.2.2.2.2.2.2.2.2.2.2.2.2.2.2.2.2.2.2.2.2.2.2.2.2.2.2.2.2.2.2.2.2.2.2.2.2.2.2.2.2)
theorem queued_bad_c : queued_bad_S c_prog c_w c_p c_loose c_mean c_mg c_mb c_dp c_un c_gd c_cn c_cs c_a c_ccd c_cl c_outer c_A₀ c_base c_h₀ c_L c_m c_s c_Q c_E c_tl c_sd c_pg c_gl c_t1 c_t2 c_t3 c_z c_osd c_al c_fr c_st c_tg c_ta c_tm c_tw c_g c_k c_many c_word c_tx := by
  refine' (?g : ∀ prog w p loose mean mg mb dp un gd cn cs a ccd cl outer A₀ base h₀ L m s Q E tl sd pg gl t1 t2 t3 z osd al fr st tg ta tm tw g k many word tx, queued_bad_S prog w p loose mean mg mb dp un gd cn cs a ccd cl outer A₀ base h₀ L m s Q E tl sd pg gl t1 t2 t3 z osd al fr st tg ta tm tw g k many word tx) c_prog c_w c_p c_loose c_mean c_mg c_mb c_dp c_un c_gd c_cn c_cs c_a c_ccd c_cl c_outer c_A₀ c_base c_h₀ c_L c_m c_s c_Q c_E c_tl c_sd c_pg c_gl c_t1 c_t2 c_t3 c_z c_osd c_al c_fr c_st c_tg c_ta c_tm c_tw c_g c_k c_many c_word c_tx
  intros prog w p loose mean mg mb dp un gd cn cs a ccd cl outer A₀ base h₀ L m s Q E tl sd pg gl t1 t2 t3 z osd al fr st tg ta tm tw g k many word tx
  intros B F X T hk N hsd hS hA hA0 hsf hsm hz hstep hdp hun ret
  cases hstep with
  | unl h0 h2 ho =>
    obtain ⟨gs, ng, R, g9, P9, cov⟩ := q_pre N hS hA hA0 hsf hsm hz h0 (by omega)
    obtain ⟨at9, ok9, N9, nd9, sep9, len9, back9⟩ := P9
    have hk9 : ((k.toNat : Nat) : Int) = k := by omega
    obtain ⟨x, xd, wq, gc, fld, val, u4, u5, nq, vs⟩ := g9
    obtain ⟨rfl, rfl, t9, e9⟩ := ok9.lock (by omega)
    have q9 := ok9.que
    dsimp only at e9 q9 N9 nd9 sep9 len9 at9
    rw [hk9] at e9 q9
    subst e9
    rw [ho, optVal_none] at N9 cov
    refine' S_unl_bad B F X T hk N9 hsd q9 nd9 sep9 len9 h0 (by omega) at9 hdp hun ?_
    intro g' h' tk' e d D ta tb tcc va vb u1 u2 FG RR UU
    refine ret g' h' tk' e d D ta tb tcc va vb u1 u2 FG (RaisedE.sub RR fun q hq => ?_) UU
    rcases List.mem_cons.mp hq with rfl | hq
    · exact .head _
    rcases List.mem_cons.mp hq with rfl | hq
    · exact .tail _ (.head _)
    rcases List.mem_cons.mp hq with rfl | hq
    · exact .tail _ (.tail _ (.head _))
    · exact .tail _ (.tail _ (.tail _ (cov q hq)))
  | add h2 h4 hz1 =>
    have h0 : 0 ≤ k := by omega
    obtain ⟨gs, ng, R, g9, P9, cov⟩ := q_pre N hS hA hA0 hsf hsm hz h0 h4
    obtain ⟨at9, ok9, N9, nd9, sep9, len9, back9⟩ := P9
    have hk9 : ((k.toNat : Nat) : Int) = k := by omega
    obtain ⟨x, xd, wq, gc, fld, val, u4, u5, nq, vs⟩ := g9
    obtain ⟨rfl, rfl, t9, e9⟩ := ok9.group (by omega)
    have q9 := ok9.que
    dsimp only at e9 q9 N9 nd9 sep9 len9 at9
    rw [hk9] at e9 q9
    subst e9
    refine' S_add_neg B F X T hk N9 hsd q9 nd9 sep9 len9 h0 (by omega) at9 hz1 hdp hun ?_
    intro g' h' tk' e d D ta tb tcc va vb u1 u2 FG RR UU
    refine ret g' h' tk' e d D ta tb tcc va vb u1 u2 FG (RaisedE.sub RR fun q hq => ?_) UU
    rcases List.mem_cons.mp hq with rfl | hq
    · exact .head _
    rcases List.mem_cons.mp hq with rfl | hq
    · exact .tail _ (.head _)
    rcases List.mem_cons.mp hq with rfl | hq
    · exact .tail _ (.tail _ (.head _))
    · exact .tail _ (.tail _ (.tail _ (cov q hq)))
theorem queued_bad_a : ∀ x, queued_bad_P x := pk_all e_43 queued_bad_c
theorem e_44 : cc = k_44 := pk_next e_43 queued_bad_a
theorem queued_bad {prog w p loose mean mg mb dp un gd cn cs a ccd cl outer A₀ base h₀ L m s Q E tl sd pg gl t1 t2 t3 z osd al fr st tg ta tm tw g k many word tx} : queued_bad_S prog w p loose mean mg mb dp un gd cn cs a ccd cl outer A₀ base h₀ L m s Q E tl sd pg gl t1 t2 t3 z osd al fr st tg ta tm tw g k many word tx :=
  queued_bad_a (prog, w, p, loose, mean, mg, mb, dp, un, gd, cn, cs, a, ccd, cl, outer, A₀, base, h₀, L, m, s, Q, E, tl, tg, t1, t2, g, k, c_wl, many, pg, sd, ta, t3, osd, tm, tw, c_t4, c_t5, al, gl, c_n, c_vs, c_x, c_xd, c_q, c_pd, c_hl, c_dc, c_t6, c_nt, c_n1, c_n3, c_cnt, c_hs, c_ws, c_held, c_rows, c_oc, c_TT, z, fr, st, word, c_pl, c_tc, c_c, c_gl_, c_ng, c_gs, c_pv, c_to, c_o, c_b, c_out, tx, cc.2.2.2.2.2.2.2.2.2.2.2.2.2.2.2.2.2.2.2.2.2.2.2.2.2.2.2.2.2.2.2.2.2.2.2.2.2.2.2.2.2.2.2.2.2.2.2.2.2.2.2.2.2.2.2.2.2.2.2.2.2.2.2.2.2.2.2.2.2.2.2.2.2.2.2.2.2.2)
end
-- PK
section
theorem plain_ok_c : plain_ok_S c_prog c_w c_p c_loose c_mean c_mg c_mb c_dp c_un c_gd c_cn c_cs c_a c_ccd c_cl c_outer c_A₀ c_base c_h₀ c_L c_m c_s c_Q c_E c_tl c_sd c_pg c_gl c_t1 c_t2 c_t3 c_z c_osd c_al c_fr c_st c_tg c_ta c_tm c_tw c_g c_k c_many c_word c_b c_out c_st' := by
  refine' (?g : ∀ prog w p loose mean mg mb dp un gd cn cs a ccd cl outer A₀ base h₀ L m s Q E tl sd pg gl t1 t2 t3 z osd al fr st tg ta tm tw g k many word b out st', plain_ok_S prog w p loose mean mg mb dp un gd cn cs a ccd cl outer A₀ base h₀ L m s Q E tl sd pg gl t1 t2 t3 z osd al fr st tg ta tm tw g k many word b out st') c_prog c_w c_p c_loose c_mean c_mg c_mb c_dp c_un c_gd c_cn c_cs c_a c_ccd c_cl c_outer c_A₀ c_base c_h₀ c_L c_m c_s c_Q c_E c_tl c_sd c_pg c_gl c_t1 c_t2 c_t3 c_z c_osd c_al c_fr c_st c_tg c_ta c_tm c_tw c_g c_k c_many c_word c_b c_out c_st'
  intros prog w p loose mean mg mb dp un gd cn cs a ccd cl outer A₀ base h₀ L m s Q E tl sd pg gl t1 t2 t3 z osd al fr st tg ta tm tw g k many word b out st'
  intros B F X T hk N hsd hS hA hA0 hsf hsm hz hstep hdp hun ret
  cases hstep with
  | lock_free hm =>
    obtain ⟨p9, TT, R, P9, cov⟩ := p_pre N hS hA hA0 hsf hsm hz
    obtain ⟨pge, phs, pws, poc, plo, ptup, psub, N9, nd9, sep9, len9, len29, back9⟩ := P9
    obtain ⟨pg', pd, hl, dc, wl, t4, t5, t6, hs, ws, n1, n3, oc⟩ := p9
    dsimp only at pge phs pws poc plo N9 nd9 sep9 len9 len29 back9
    subst pge
    refine' L_lock_free B F X T hk N9 hsd phs pws poc psub ptup plo nd9 sep9 len9 len29 (by omega) hm hdp hun ?_
    intro h' tk' l r us nr hs' n1' oc' nt' W ws' n3' ex F' N'' rw' rh' ro' tt hnt Nx hx rus nl nr2 lr nw wl' wr nx
    obtain ⟨tl', N3, S3, A3, f1, f2, f3, f4⟩ := back9 { st with held := st.held ++ [k] } h' l r _ _ _ _ hs' n1' oc' nt' W ws' n3' ex N'' rw' rh' ro' tt hnt Nx hx rfl rfl rfl nl nr2 nw wl' wr nx
    exact ret _ _ _ _ _ _ _ F' N3 S3 rus A3 f1 f2 lr f3 f4
  | lock_held hm =>
    obtain ⟨p9, TT, R, P9, cov⟩ := p_pre N hS hA hA0 hsf hsm hz
    obtain ⟨pge, phs, pws, poc, plo, ptup, psub, N9, nd9, sep9, len9, len29, back9⟩ := P9
    obtain ⟨pg', pd, hl, dc, wl, t4, t5, t6, hs, ws, n1, n3, oc⟩ := p9
    dsimp only at pge phs pws poc plo N9 nd9 sep9 len9 len29 back9
    subst pge
    refine' L_lock_held B F X T hk N9 hsd phs pws poc psub ptup plo nd9 sep9 len9 len29 (by omega) hm hdp hun ?_
    intro h' tk' l r us nr hs' n1' oc' nt' W ws' n3' ex F' N'' rw' rh' ro' tt hnt Nx hx rus nl nr2 lr nw wl' wr nx
    obtain ⟨tl', N3, S3, A3, f1, f2, f3, f4⟩ := back9 { st with rows := st.rows ++ [(k, g)] } h' l r _ _ _ _ hs' n1' oc' nt' W ws' n3' ex N'' rw' rh' ro' tt hnt Nx hx rfl rfl rfl nl nr2 nw wl' wr nx
    exact ret _ _ _ _ _ _ _ F' N3 S3 rus A3 f1 f2 lr f3 f4
  | unl_none hm hno =>
    obtain ⟨p9, TT, R, P9, cov⟩ := p_pre N hS hA hA0 hsf hsm hz
    obtain ⟨pge, phs, pws, poc, plo, ptup, psub, N9, nd9, sep9, len9, len29, back9⟩ := P9
    obtain ⟨pg', pd, hl, dc, wl, t4, t5, t6, hs, ws, n1, n3, oc⟩ := p9
    dsimp only at pge phs pws poc plo N9 nd9 sep9 len9 len29 back9
    subst pge
    refine' L_unl_none B F X T hk N9 hsd phs pws poc psub ptup plo nd9 sep9 len9 len29 (by omega) hm hno hdp hun ?_
    intro h' tk' l r us nr hs' n1' oc' nt' W ws' n3' ex F' N'' rw' rh' ro' tt hnt Nx hx rus nl nr2 lr nw wl' wr nx
    obtain ⟨tl', N3, S3, A3, f1, f2, f3, f4⟩ := back9 { st with held := st.held.eraseIdx (st.held.idxOf k) } h' l r _ _ _ _ hs' n1' oc' nt' W ws' n3' ex N'' rw' rh' ro' tt hnt Nx hx rfl rfl rfl nl nr2 nw wl' wr nx
    exact ret _ _ _ _ _ _ _ F' N3 S3 rus A3 f1 f2 lr f3 f4
  | @unl_first _ _ q9 pre9 post9 hm hr hno =>
    obtain ⟨p9, TT, R, P9, cov⟩ := p_pre N hS hA hA0 hsf hsm hz
    obtain ⟨pge, phs, pws, poc, plo, ptup, psub, N9, nd9, sep9, len9, len29, back9⟩ := P9
    obtain ⟨pg', pd, hl, dc, wl, t4, t5, t6, hs, ws, n1, n3, oc⟩ := p9
    dsimp only at pge phs pws poc plo N9 nd9 sep9 len9 len29 back9
    subst pge
    refine' L_unl_first B F X T hk N9 hsd phs pws poc psub ptup plo nd9 sep9 len9 len29 (by omega) hm hr hno hdp hun ?_
    intro h' tk' l r us nr hs' n1' oc' nt' W ws' n3' ex F' N'' rw' rh' ro' tt hnt Nx hx rus nl nr2 lr nw wl' wr nx
    obtain ⟨tl', N3, S3, A3, f1, f2, f3, f4⟩ := back9 { st with rows := st.rows.eraseIdx pre9.length } h' l r _ _ _ _ hs' n1' oc' nt' W ws' n3' ex N'' rw' rh' ro' tt hnt Nx hx rfl rfl rfl nl nr2 nw wl' wr nx
    exact ret _ _ _ _ _ _ _ F' N3 S3 rus A3 f1 f2 lr f3 f4
  | add_pos hz1 hz2 =>
    obtain ⟨p9, TT, R, P9, cov⟩ := p_pre N hS hA hA0 hsf hsm hz
    obtain ⟨pge, phs, pws, poc, plo, ptup, psub, N9, nd9, sep9, len9, len29, back9⟩ := P9
    obtain ⟨pg', pd, hl, dc, wl, t4, t5, t6, hs, ws, n1, n3, oc⟩ := p9
    dsimp only at pge phs pws poc plo N9 nd9 sep9 len9 len29 back9
    subst pge
    refine' L_add_pos B F X T hk N9 hsd phs pws poc psub ptup plo nd9 sep9 len9 len29 (by omega) hz1 hz2 hdp hun ?_
    intro h' tk' l r us nr hs' n1' oc' nt' W ws' n3' ex F' N'' rw' rh' ro' tt hnt Nx hx rus nl nr2 lr nw wl' wr nx
    obtain ⟨tl', N3, S3, A3, f1, f2, f3, f4⟩ := back9 { st with cnt := upd st.cnt k (st.cnt k + many) } h' l r _ _ _ _ hs' n1' oc' nt' W ws' n3' ex N'' rw' rh' ro' tt hnt Nx hx rfl rfl rfl nl nr2 nw wl' wr nx
    exact ret _ _ _ _ _ _ _ F' N3 S3 rus A3 f1 f2 lr f3 f4
  | add_zero hz1 hz2 =>
    obtain ⟨p9, TT, R, P9, cov⟩ := p_pre N hS hA hA0 hsf hsm hz
    obtain ⟨pge, phs, pws, poc, plo, ptup, psub, N9, nd9, sep9, len9, len29, back9⟩ := P9
    obtain ⟨pg', pd, hl, dc, wl, t4, t5, t6, hs, ws, n1, n3, oc⟩ := p9
    dsimp only at pge phs pws poc plo N9 nd9 sep9 len9 len29 back9
    subst pge
    refine' L_add_zero B F X T hk N9 hsd phs pws poc psub ptup plo nd9 sep9 len9 len29 (by omega) hz1 hz2 hdp hun ?_
    intro h' tk' l r us nr hs' n1' oc' nt' W ws' n3' ex F' N'' rw' rh' ro' tt hnt Nx hx rus nl nr2 lr nw wl' wr nx
    obtain ⟨tl', N3, S3, A3, f1, f2, f3, f4⟩ := back9 { st with cnt := upd st.cnt k (st.cnt k + many), rows := st.rows.filter (fun r => decide (r.1 ≠ k)) } h' l r _ _ _ _ hs' n1' oc' nt' W ws' n3' ex N'' rw' rh' ro' tt hnt Nx hx rfl rfl rfl nl nr2 nw wl' wr nx
    exact ret _ _ _ _ _ _ _ F' N3 S3 rus A3 f1 f2 lr f3 f4
  | wait_zero hz1 =>
    obtain ⟨p9, TT, R, P9, cov⟩ := p_pre N hS hA hA0 hsf hsm hz
    obtain ⟨pge, phs, pws, poc, plo, ptup, psub, N9, nd9, sep9, len9, len29, back9⟩ := P9
    obtain ⟨pg', pd, hl, dc, wl, t4, t5, t6, hs, ws, n1, n3, oc⟩ := p9
    dsimp only at pge phs pws poc plo N9 nd9 sep9 len9 len29 back9
    subst pge
    refine' L_wait_zero B F X T hk N9 hsd phs pws poc psub ptup plo nd9 sep9 len9 len29 (by omega) hz1 hdp hun ?_
    intro h' tk' l r us nr hs' n1' oc' nt' W ws' n3' ex F' N'' rw' rh' ro' tt hnt Nx hx rus nl nr2 lr nw wl' wr nx
    obtain ⟨tl', N3, S3, A3, f1, f2, f3, f4⟩ := back9 st h' l r _ _ _ _ hs' n1' oc' nt' W ws' n3' ex N'' rw' rh' ro' tt hnt Nx hx rfl rfl rfl nl nr2 nw wl' wr nx
    exact ret _ _ _ _ _ _ _ F' N3 S3 rus A3 f1 f2 lr f3 f4
  | wait_non hz1 =>
    obtain ⟨p9, TT, R, P9, cov⟩ := p_pre N hS hA hA0 hsf hsm hz
    obtain ⟨pge, phs, pws, poc, plo, ptup, psub, N9, nd9, sep9, len9, len29, back9⟩ := P9
    obtain ⟨pg', pd, hl, dc, wl, t4, t5, t6, hs, ws, n1, n3, oc⟩ := p9
    dsimp only at pge phs pws poc plo N9 nd9 sep9 len9 len29 back9
    subst pge
    refine' L_wait_non B F X T hk N9 hsd phs pws poc psub ptup plo nd9 sep9 len9 len29 (by omega) hz1 hdp hun ?_
    intro h' tk' l r us nr hs' n1' oc' nt' W ws' n3' ex F' N'' rw' rh' ro' tt hnt Nx hx rus nl nr2 lr nw wl' wr nx
    obtain ⟨tl', N3, S3, A3, f1, f2, f3, f4⟩ := back9 { st with rows := st.rows ++ [(k, g)] } h' l r _ _ _ _ hs' n1' oc' nt' W ws' n3' ex N'' rw' rh' ro' tt hnt Nx hx rfl rfl rfl nl nr2 nw wl' wr nx
    exact ret _ _ _ _ _ _ _ F' N3 S3 rus A3 f1 f2 lr f3 f4
theorem plain_ok_a : ∀ x, plain_ok_P x := pk_all e_44 plain_ok_c
theorem e_45 : cc = k_45 := pk_next e_44 plain_ok_a
theorem plain_ok {prog w p loose mean mg mb dp un gd cn cs a ccd cl outer A₀ base h₀ L m s Q E tl sd pg gl t1 t2 t3 z osd al fr st tg ta tm tw g k many word b out st'} : plain_ok_S prog w p loose mean mg mb dp un gd cn cs a ccd cl outer A₀ base h₀ L m s Q E tl sd pg gl t1 t2 t3 z osd al fr st tg ta tm tw g k many word b out st' :=
  plain_ok_a (prog, w, p, loose, mean, mg, mb, dp, un, gd, cn, cs, a, ccd, cl, outer, A₀, base, h₀, L, m, s, Q, E, tl, tg, t1, t2, g, k, c_wl, many, pg, sd, ta, t3, osd, tm, tw, c_t4, c_t5, al, gl, c_n, c_vs, c_x, c_xd, c_q, c_pd, c_hl, c_dc, c_t6, c_nt, c_n1, c_n3, c_cnt, c_hs, c_ws, c_held, c_rows, c_oc, c_TT, z, fr, st, word, c_pl, c_tc, c_c, c_gl_, c_ng, c_gs, c_pv, c_to, c_o, b, out, c_tx, c_G, c_al_, c_na, c_as, st', cc.2.2.2.2.2.2.2.2.2.2.2.2.2.2.2.2.2.2.2.2.2.2.2.2.2.2.2.2.2.2.2.2.2.2.2.2.2.2.2.2.2.2.2.2.2.2.2.2.2.2.2.2.2.2.2.2.2.2.2.2.2.2.2.2.2.2.2.2.2.2.2.2.2.2.2.2.2.2.2.2.2.2.2)
theorem plain_bad_c : plain_bad_S c_prog c_w c_p c_loose c_mean c_mg c_mb c_dp c_un c_gd c_cn c_cs c_a c_ccd c_cl c_outer c_A₀ c_base c_h₀ c_L c_m c_s c_Q c_E c_tl c_sd c_pg c_gl c_t1 c_t2 c_t3 c_z c_osd c_al c_fr c_st c_tg c_ta c_tm c_tw c_g c_k c_many c_word c_tx := by
  refine' (?g : ∀ prog w p loose mean mg mb dp un gd cn cs a ccd cl outer A₀ base h₀ L m s Q E tl sd pg gl t1 t2 t3 z osd al fr st tg ta tm tw g k many word tx, plain_bad_S prog w p loose mean mg mb dp un gd cn cs a ccd cl outer A₀ base h₀ L m s Q E tl sd pg gl t1 t2 t3 z osd al fr st tg ta tm tw g k many word tx) c_prog c_w c_p c_loose c_mean c_mg c_mb c_dp c_un c_gd c_cn c_cs c_a c_ccd c_cl c_outer c_A₀ c_base c_h₀ c_L c_m c_s c_Q c_E c_tl c_sd c_pg c_gl c_t1 c_t2 c_t3 c_z c_osd c_al c_fr c_st c_tg c_ta c_tm c_tw c_g c_k c_many c_word c_tx
  intros prog w p loose mean mg mb dp un gd cn cs a ccd cl outer A₀ base h₀ L m s Q E tl sd pg gl t1 t2 t3 z osd al fr st tg ta tm tw g k many word tx
  intros B F X T hk N hsd hS hA hA0 hsf hsm hz hstep hdp hun ret
  cases hstep with
  | unl hm =>
    obtain ⟨p9, TT, R, P9, cov⟩ := p_pre N hS hA hA0 hsf hsm hz
    obtain ⟨pge, phs, pws, poc, plo, ptup, psub, N9, nd9, sep9, len9, len29, back9⟩ := P9
    obtain ⟨pg', pd, hl, dc, wl, t4, t5, t6, hs, ws, n1, n3, oc⟩ := p9
    dsimp only at pge phs pws poc plo N9 nd9 sep9 len9 len29 back9
    subst pge
    refine' L_unl_bad B F X T hk N9 hsd phs pws poc psub ptup plo nd9 sep9 len9 len29 (by omega) hm hdp hun ?_
    intro g' h' tk' e d D ta tb tcc va vb u1 u2 FG RR UU
    refine ret g' h' tk' e d D ta tb tcc va vb u1 u2 FG (RaisedE.sub RR fun q hq => ?_) UU
    rcases List.mem_cons.mp hq with rfl | hq
    · exact .head _
    rcases List.mem_cons.mp hq with rfl | hq
    · exact .tail _ (.head _)
    rcases List.mem_cons.mp hq with rfl | hq
    · exact .tail _ (.tail _ (.head _))
    · exact .tail _ (.tail _ (.tail _ (cov q hq)))
  | add hz1 =>
    obtain ⟨p9, TT, R, P9, cov⟩ := p_pre N hS hA hA0 hsf hsm hz
    obtain ⟨pge, phs, pws, poc, plo, ptup, psub, N9, nd9, sep9, len9, len29, back9⟩ := P9
    obtain ⟨pg', pd, hl, dc, wl, t4, t5, t6, hs, ws, n1, n3, oc⟩ := p9
    dsimp only at pge phs pws poc plo N9 nd9 sep9 len9 len29 back9
    subst pge
    refine' L_add_neg B F X T hk N9 hsd phs pws poc psub ptup plo nd9 sep9 len9 len29 (by omega) hz1 hdp hun ?_
    intro g' h' tk' e d D ta tb tcc va vb u1 u2 FG RR UU
    refine ret g' h' tk' e d D ta tb tcc va vb u1 u2 FG (RaisedE.sub RR fun q hq => ?_) UU
    rcases List.mem_cons.mp hq with rfl | hq
    · exact .head _
    rcases List.mem_cons.mp hq with rfl | hq
    · exact .tail _ (.head _)
    rcases List.mem_cons.mp hq with rfl | hq
    · exact .tail _ (.tail _ (.head _))
    · exact .tail _ (.tail _ (.tail _ (cov q hq)))
theorem plain_bad_a : ∀ x, plain_bad_P x := pk_all e_45 plain_bad_c
theorem e_46 : cc = k_46 := pk_next e_45 plain_bad_a
theorem plain_bad {prog w p loose mean mg mb dp un gd cn cs a ccd cl outer A₀ base h₀ L m s Q E tl sd pg gl t1 t2 t3 z osd al fr st tg ta tm tw g k many word tx} : plain_bad_S prog w p loose mean mg mb dp un gd cn cs a ccd cl outer A₀ base h₀ L m s Q E tl sd pg gl t1 t2 t3 z osd al fr st tg ta tm tw g k many word tx :=
  plain_bad_a (prog, w, p, loose, mean, mg, mb, dp, un, gd, cn, cs, a, ccd, cl, outer, A₀, base, h₀, L, m, s, Q, E, tl, tg, t1, t2, g, k, c_wl, many, pg, sd, ta, t3, osd, tm, tw, c_t4, c_t5, al, gl, c_n, c_vs, c_x, c_xd, c_q, c_pd, c_hl, c_dc, c_t6, c_nt, c_n1, c_n3, c_cnt, c_hs, c_ws, c_held, c_rows, c_oc, c_TT, z, fr, st, word, c_pl, c_tc, c_c, c_gl_, c_ng, c_gs, c_pv, c_to, c_o, c_b, c_out, tx, cc.2.2.2.2.2.2.2.2.2.2.2.2.2.2.2.2.2.2.2.2.2.2.2.2.2.2.2.2.2.2.2.2.2.2.2.2.2.2.2.2.2.2.2.2.2.2.2.2.2.2.2.2.2.2.2.2.2.2.2.2.2.2.2.2.2.2.2.2.2.2.2.2.2.2.2.2.2.2)
end
local macro_rules | `(tactic| k_all) => mtRun [("k_all", "F3 S3 R @2 aapart_one ?x ?m C x H Kassumption C m Kk_mem S5 R @1 aall_ofLt ?g P R @1 aall_ltS ?_ R @2 aall_lt0 ?h ?s C h H Kassumption C s WMINE~sub0 X")] "k_all"
local macro_rules | `(tactic| ked_read) => mtRun [("ked_read", "F2 S4 R @3 areads_place ?N ?a ?b C N H Kassumption C a Kk_mem C b Kk_mem X")] "ked_read"
local macro_rules | `(tactic| walk_at $k:str) => mtRun [
  ("MINE lread", "F6 Kk_asm E aLRead.int E aLRead.str S3 R @2 aLRead.more ?a ?s C a Kk_asm C s WMINE~sub S3 R @2 aLRead.tuple ?x ?m C m Kk_mem C x WMINE~lreads X"),
  ("MINE lreads", "F3 F3 S3 R @2 aLReads.snoc ?a ?b C a WMINE~lreads C b WMINE~lread S2 R @2 aLReads.eraseM _ ?a C a WMINE~lreads X F5 Kk_asm E aLReads.nil S3 R @2 aLReads.more ?a ?s C a Kk_asm C s WMINE~sub S3 R @2 aLReads.cons ?a ?b C a WMINE~lread C b WMINE~lreads X X"),
  ("MINE rows", "F3 F3 S3 R @2 aRowsIn.snoc ?a ?b C a WMINE~rows C b WMINE~row S2 R @2 aRowsIn.erase _ ?a C a WMINE~rows X F3 Kk_asm S3 R @2 aRowsIn.more ?a ?s C a Kk_asm C s WMINE~sub X X"),
  ("MINE row", "F4 Kk_asm S3 R @2 aRowIn.more ?a ?s C a Kk_asm C s WMINE~sub S3 R <7 _ _ _ _ arfl ?m ?x C m Kk_mem C x WMINE~lread X"),
  ("MINE tups", "F4 Kk_asm E @1 aList.forall_mem_nil _ S2 R @1 aList.forall_mem_cons.mpr <2 arfl ?b C b WMINE~tups X"),
  ("MINE seps", "F3 E @1 aList.forall_mem_nil _ S3 R @1 aList.forall_mem_cons.mpr <2 ?a ?b C a Kk_all C b WMINE~seps X"),
  ("MINE tabo", "F3 Kk_asm S3 R @2 aTabO.more ?a ?s C a Kk_asm C s WMINE~sub X"),
  ("MINE pull", "F3 E aPull.hit S2 R @1 aPull.keep ?b C b WMINE~pull X"),
  ("MINE nes", "F3 E @1 aList.forall_mem_nil _ S3 R @1 aList.forall_mem_cons.mpr <2 ?a ?b C a Kk_ne C b WMINE~nes X"),
  ("MINE new", "S3 R @2 aAnd.intro ?a ?b C a WMINE~nes C b Kk_all"),
  ("MINE newor", "F4 E @1 aOr.inl arfl E @1 aOr.inl ( y H Kassumption S2 R @1 aOr.inr ?a C a WMINE~new X"),
  ("MINE exs", "F4 E @1 aList.forall_mem_nil _ E l2 p hp @1 aOr.inl vhp S3 R @1 aList.forall_mem_cons.mpr <2 ?a ?b C a S2 R @1 aOr.inr ?c C c WMINE~new C b WMINE~exs X"),
  ("MINE nodup", "F3 H Kassumption S2 s8 List.nodup_cons List.mem_cons List.not_mem_nil or_false not_or List.nodup_nil and_true not_false_eq_true 0 Z P' A aAnd.intro Kk_ne X"),
  ("MINE cut", "F3 E aCut.nil S2 R @1 aCut.cons ?a C a WMINE~cut X"),
  ("MINE apart", "F3 E aApart.nil S3 R @2 aApart.cons ?a ?b C a Kk_all C b WMINE~apart X"),
  ("MINE nesr", "F3 E @1 aList.forall_mem_nil _ S3 R @1 aList.forall_mem_cons.mpr <2 ?a ?b C a Kk_ne C b WMINE~nesr X"),
  ("compareOp NotEq ref ref", "F3 S3 Kk_here D F2 S6 R @5 ane_panics ?N ?m1 ?m2 ?u ?_ C N H Kassumption C m1 Kk_mem C m2 Kk_mem C u Kktr_units Kk_whole X T d2 Bool.not_true Bool.not_false 0 S3 Kk_here D F3 S10 R @9 ane_told ?N ?m1 ?m2 ?m3 ?m4 ?r1 ?r2 ?u ?_ C N Kk_asm C m1 Kk_mem C m3 Kk_mem C m2 Kk_mem C m4 Kk_mem C r1 H Kassumption C r2 H Kassumption C u Kktr_units Kk_whole S9 R @8 ane_intsL ?N ?m1 ?m2 ?r1 ?r2 ?hb ?u ?_ C N Kk_asm C m1 Kk_mem C m2 Kk_mem C r1 H Kassumption C r2 H Kassumption C hb H Kassumption C u Kktr_units Kk_whole X T d2 Bool.not_true Bool.not_false 0 X"),
  ("callWith ref nil nil", "S2 Kk_here D S4 R @3 acallWith_K ?k1 ?k2 ?_ C k1 Kk_asm C k2 Kk_is Kk_whole"),
  ("subscriptTail Name Constant ref int", "S2 Kk_here D S8 R @7 aitem_at ?N ?m ?a ?b ?c ?_ ?d C N H Kassumption C m Kk_mem C a Kdecide C b Kdecide C c E arfl C d U Krfl Kk_whole"),
  ("subscriptTail Name Name ref int", "S2 Kk_here D S8 R @7 aitem_at ?N ?m ?a ?b ?c ?_ ?d C N H Kassumption C m Kk_mem C a H Kassumption C b H Kassumption C c H Kassumption C d U Krfl Kk_whole")] k.getString
-- SK
section
local macro_rules | `(tactic| walk_at $k:str) => mtRun [
  ("call ref", "F3 S2 Kk_here D F2 S20 R @14 aM_isl_some ?B ?F ?X ?T ?hk ( @4 apulls3 ?N ?t1 ?t2 ?t3 ?q ?nd ?s1 ?s2 ?l1 ?dp ?un ?_ C B Kk_asm C F Kk_asm C X Kk_asm C T Kk_asm C hk E arfl C N Kk_asm C t1 WMINE~pull C t2 WMINE~pull C t3 WMINE~pull C q WMINE~lreads C nd WMINE~nodup C s1 Kk_all C s2 Kk_all C l1 Kk_asm C dp S2 T d2 ktrTop Around.deeper 0 Komega C un S2 T d2 ktrTop Around.deeper 0 Komega Kk_whole I4 h' tk' F' N' T Kk_sweep X S2 Kk_here D F2 S20 R @14 aM_isl_none ?B ?F ?X ?T ?hk ( @4 apulls3 ?N ?t1 ?t2 ?t3 ?q ?nd ?s1 ?s2 ?l1 ?dp ?un ?_ C B Kk_asm C F Kk_asm C X Kk_asm C T Kk_asm C hk E arfl C N Kk_asm C t1 WMINE~pull C t2 WMINE~pull C t3 WMINE~pull C q WMINE~lreads C nd WMINE~nodup C s1 Kk_all C s2 Kk_all C l1 Kk_asm C dp S2 T d2 ktrTop Around.deeper 0 Komega C un S2 T d2 ktrTop Around.deeper 0 Komega Kk_whole I4 h' tk' F' N' T Kk_sweep X X")] k.getString
theorem stands_ok_c : stands_ok_S c_prog c_w c_p c_loose c_mean c_mg c_mb c_dp c_un c_gd c_cn c_cs c_a c_ccd c_cl c_outer c_A₀ c_base c_h₀ c_L c_m c_s c_Q c_E c_tl c_sd c_pg c_gl c_t1 c_t2 c_t3 c_z c_osd c_al c_fr c_st := by
  refine' (?g : ∀ prog w p loose mean mg mb dp un gd cn cs a ccd cl outer A₀ base h₀ L m s Q E tl sd pg gl t1 t2 t3 z osd al fr st, stands_ok_S prog w p loose mean mg mb dp un gd cn cs a ccd cl outer A₀ base h₀ L m s Q E tl sd pg gl t1 t2 t3 z osd al fr st) c_prog c_w c_p c_loose c_mean c_mg c_mb c_dp c_un c_gd c_cn c_cs c_a c_ccd c_cl c_outer c_A₀ c_base c_h₀ c_L c_m c_s c_Q c_E c_tl c_sd c_pg c_gl c_t1 c_t2 c_t3 c_z c_osd c_al c_fr c_st
  intros prog w p loose mean mg mb dp un gd cn cs a ccd cl outer A₀ base h₀ L m s Q E tl sd pg gl t1 t2 t3 z osd al fr st
  intros B F X T hk N hsd hS hA hA0 hsf hsm hz hM hdp hun ret
  obtain ⟨pz, ng, gs, TT, hSc⟩ := hS
  have hlen := hSc.len
  have mT : ∀ q ∈ tl, q ∈ fr ++ tl := fun q h => List.mem_append_right _ h
  generalize fr ++ tl = tt at N ret mT
  have mp := fun (q : Addr × Obj) h => mT q (hSc.plain q h)
  have mt := fun (q : Addr × Obj) h => mT q (hSc.tups q h)
  have mG := mT _ hSc.gates
  have htp := hSc.tup
  have hhs := hSc.hs
  have hws := hSc.ws
  have hoc := hSc.oc
  have lo := hSc.lo
  have hgt : ∀ (i : Nat) (g : Gt), gs[i]? = some g → (∀ q ∈ g.ent w.params, q ∈ tt) := fun i g h q hq => mT q (hSc.gate h q hq)
  have hok := hSc.ok
  have hpg := hSc.pg
  clear hA hA0 hsf mT hSc
  obtain ⟨pg', pd, hl, dc, wl, t4, t5, t6, hs, ws, n1, n3, oc⟩ := pz
  subst hpg
  dsimp only [Pz.ent] at mp hhs hws hoc lo
  have hl1 : hs.length ≤ 200 := by
    have := hhs.length_eq (h := s.heap) (fun q hq => (N q (.tail _ (mt q hq))).1)
    have := hsm.held
    simp only [List.length_map] at *
    omega
  have hl2 : ws.length ≤ 200 := by have := hws.length; have := hsm.rows; omega
  have hl3 : z ≤ 200 := by omega
  walk_at "MINE enter"
  (repeat ((fail_if_success (with_reducible show wpAny _ _ (exec (Stmt.For _ _ _ _ _) _) _ _ _)); first | (k_unfold; (try dsimp only)) | walk1 | (dsimp only; walk1) | (leave1; walk_say "STEP leave1"; (try dsimp only))))
  refine' For_turns (h₀ := _) ?a9 ?b9 ?c9 ?d9
  case a9 => k_asm
  case c9 => (intro _; rfl)
  case d9 => passes_own
  case b9 =>
  (repeat ((fail_if_success (with_reducible show wpAny _ _ (pyIter _) _ _ _)); first | (k_unfold; (try dsimp only)) | walk1 | (dsimp only; walk1) | (leave1; walk_say "STEP leave1"; (try dsimp only))))
  k_dflt (refine' range_turns (n := 4) (JCell _ _ "waits" _) ?hh ?hr ?hsm ?hn ?F (news_sub ?N ?s) ?hL ?hj ?hgo ?turn ?done)
  case hh => exact rfl
  case hr => first | assumption | exact Heap.get?_push_size _ rfl
  case hsm => decide
  case hn => first | rfl | decide
  case F => k_asm
  case N => k_asm
  case hL => exact rfl
  case hj => exact JCell.start (by assumption)
  case s => walk_at "MINE sub"
  case hgo => exact fun _ _ => rfl
  case done =>
    rintro m₁ nx h tk ⟨u, o9, v9, hd9, rfl, rfl⟩ F N
    dsimp only
    k_steps
    refine' ret _ _ ?F9 (news_sub ?N9 ?s9)
    case F9 => k_asm
    case N9 => k_asm
    case s9 => walk_at "MINE sub"
  case turn =>
    rintro i k I oI m₁ nx h tk hi ⟨u, o9, v9, hd9, rfl, rfl⟩ F N off0
    obtain ⟨g, hg⟩ : ∃ g, gs[i]? = some g := ⟨gs[i]'(by omega), by simp⟩
    have ho := hok i g hg
    have hm := hgt i g hg
    have hgx : (gs.map fun g => Value.ref g.x)[i]? = some (.ref g.x) := by rw [List.getElem?_map, hg]; rfl
    obtain ⟨x, xd, wq, gc, fld, val, u4, u5, nq, vs⟩ := g
    rw [show (0 : Int) + (i : Int) = (i : Int) by omega]
    have hi0 : (0 : Int) ≤ (i : Int) := by omega
    have hi4 : (i : Int) < 1000 := by omega
    have hgx' : (gs.map fun g => Value.ref g.x)[(i : Int).toNat]? = some (.ref x) := hgx
    dsimp only [Gt.ent] at hm
    (repeat ((fail_if_success (with_reducible show wpAny _ _ (execs _ _) _ _ _)); first | (k_unfold; (try dsimp only)) | walk1 | (dsimp only; walk1) | (leave1; walk_say "STEP leave1"; (try dsimp only))))
    ((with_reducible rename News _ _ _ _ => kN9); (have kN10 := news_app kN9 (by walk_at "MINE sub") mp); (replace kN10 := news_app kN10 (by walk_at "MINE sub") hm); (replace kN10 := news_app (M := [_]) kN10 (by walk_at "MINE sub") (List.forall_mem_singleton.mpr mG)); (simp only [List.cons_append, List.nil_append] at kN10); clear kN9)
    have hq := ho.que
    dsimp only at hq
    (repeat ((fail_if_success (with_reducible show LCt.CompSrcT _ _ _ _ _ _ _ _ _ _ _ _ _ _ _)); first | (k_unfold; (try dsimp only)) | walk1 | (dsimp only; walk1) | (leave1; walk_say "STEP leave1"; (try dsimp only))))
    k_dflt (refine LCt.CompSrcT.ledger (by rfl) (by k_asm) (by k_asm) (by k_mem) (my_fits hl2) ?_)
    intro g9
    refine comp_rowsC (f := fun r => decide (r.1 = (i : Int))) (G0 := RowIn enc1 TT) (G := fun y r => ∃ t, y = .int r.2 t) (.inr ⟨_, by k_mem, rfl, _, rfl⟩) ?turnC ws st.rows hws.rel 0 [] (fun j => by simp) ?fin
    case turnC =>
      intro v r I2 oI2 C oC D ys m₂ h tk E' hr hC hx F N off3 ne3
      obtain ⟨R, pp, t, n, rfl, hR, hp⟩ := hr
      have N := news_dup (q := (R, ({ cls := .type "tuple", data := .seq #[.ref pp, .int r.2 t] n } : Obj))) N (by repeat (first | exact mt _ hR | refine List.Mem.tail _ ?_))
      by_cases hk : r.1 = (i : Int)
      · have hb : decide (r.1 = (i : Int)) = true := by simpa using hk
        k_steps
        refine' ⟨_, _, rfl, ?a1, news_sub ?b1 ?c1⟩
        case a1 => k_asm
        case b1 => k_asm
        case c1 => walk_at "MINE sub"
      · have hb : decide (r.1 = (i : Int)) = false := by simpa using hk
        k_steps
        refine' ⟨_, _, rfl, ?a2, news_sub ?b2 ?c2⟩
        case a2 => k_asm
        case b2 => k_asm
        case c2 => walk_at "MINE sub"
    case fin =>
      intro zs hz' D h tk F N off
      rw [List.nil_append] at N
      dsimp only
      have hzs := Rel2.ints (tl := []) hz'
      rw [← hM.que _ hi0 (by omega)] at hzs
      have hbq : decide (st.q (i : Int) = st.q (i : Int)) = true := by simp
      by_cases hi2 : i < 2
      · obtain ⟨rfl, rfl, t9, rfl⟩ := ho.lock hi2
        have hc := hM.lock (i : Int) hi0 (by omega)
        cases hoo : st.o (i : Int) with
        | none =>
          rw [hoo, optVal_none] at N
          rw [hoo] at hc
          dsimp only [Option.isSome] at hc
          k_steps
          refine' turn_cell ?FA ?DA off0 ?NA ?SA
          case FA => k_asm
          case NA => k_asm
          case SA => walk_at "MINE sub"
          case DA => assumption
        | some ow =>
          rw [hoo, optVal_some] at N
          rw [hoo] at hc
          dsimp only [Option.isSome] at hc
          k_steps
          refine' turn_cell ?FB ?DB off0 ?NB ?SB
          case FB => k_asm
          case NB => k_asm
          case SB => walk_at "MINE sub"
          case DB => assumption
      · obtain ⟨rfl, rfl, t9, rfl⟩ := ho.group hi2
        have hc := hM.group (i : Int) (by omega) (by omega)
        k_steps
        all_goals try (exfalso; omega)
        refine' turn_cell ?FC ?DC off0 ?NC ?SC
        case FC => k_asm
        case NC => k_asm
        case SC => walk_at "MINE sub"
        case DC => assumption
theorem stands_ok_a : ∀ x, stands_ok_P x := pk_all e_46 stands_ok_c
theorem e_47 : cc = k_47 := pk_next e_46 stands_ok_a
theorem stands_ok {prog w p loose mean mg mb dp un gd cn cs a ccd cl outer A₀ base h₀ L m s Q E tl sd pg gl t1 t2 t3 z osd al fr st} : stands_ok_S prog w p loose mean mg mb dp un gd cn cs a ccd cl outer A₀ base h₀ L m s Q E tl sd pg gl t1 t2 t3 z osd al fr st :=
  stands_ok_a (prog, w, p, loose, mean, mg, mb, dp, un, gd, cn, cs, a, ccd, cl, outer, A₀, base, h₀, L, m, s, Q, E, tl, c_tg, t1, t2, c_g, c_k, c_wl, c_many, pg, sd, c_ta, t3, osd, c_tm, c_tw, c_t4, c_t5, al, gl, c_n, c_vs, c_x, c_xd, c_q, c_pd, c_hl, c_dc, c_t6, c_nt, c_n1, c_n3, c_cnt, c_hs, c_ws, c_held, c_rows, c_oc, c_TT, z, fr, st, cc.2.2.2.2.2.2.2.2.2.2.2.2.2.2.2.2.2.2.2.2.2.2.2.2.2.2.2.2.2.2.2.2.2.2.2.2.2.2.2.2.2.2.2.2.2.2.2.2.2.2.2.2.2.2.2.2.2.2.2.2.2.2.2.2.2)
end
-- WK
section
theorem queued_okF_c : queued_okF_S c_prog c_w c_p c_loose c_mean c_mg c_mb c_dp c_un c_gd c_cn c_cs c_a c_ccd c_cl c_outer c_A₀ c_base c_h₀ c_L c_m c_s c_Q c_E c_tl c_sd c_pg c_gl c_t1 c_t2 c_t3 c_z c_osd c_al c_fr c_st c_G c_tg c_ta c_tm c_tw c_g c_k c_many c_word c_b c_out c_st' := by
  refine' (?g : ∀ prog w p loose mean mg mb dp un gd cn cs a ccd cl outer A₀ base h₀ L m s Q E tl sd pg gl t1 t2 t3 z osd al fr st G tg ta tm tw g k many word b out st', queued_okF_S prog w p loose mean mg mb dp un gd cn cs a ccd cl outer A₀ base h₀ L m s Q E tl sd pg gl t1 t2 t3 z osd al fr st G tg ta tm tw g k many word b out st') c_prog c_w c_p c_loose c_mean c_mg c_mb c_dp c_un c_gd c_cn c_cs c_a c_ccd c_cl c_outer c_A₀ c_base c_h₀ c_L c_m c_s c_Q c_E c_tl c_sd c_pg c_gl c_t1 c_t2 c_t3 c_z c_osd c_al c_fr c_st c_G c_tg c_ta c_tm c_tw c_g c_k c_many c_word c_b c_out c_st'
  intros prog w p loose mean mg mb dp un gd cn cs a ccd cl outer A₀ base h₀ L m s Q E tl sd pg gl t1 t2 t3 z osd al fr st G tg ta tm tw g k many word b out st'
  intros B F X T hk N hsd hS hA hA0 hsf hsm hz hstep hdp hun ret
  obtain ⟨tl0, rfl, hS0, hG⟩ := hS
  have e : fr ++ (G ++ tl0) = (fr ++ G) ++ tl0 := (List.append_assoc ..).symm
  rw [e] at N
  have hA' : Apart (fr ++ G) tl0 := fun p hp q hq => by
    rcases List.mem_append.mp hp with hp | hp
    · exact hA p hp q (List.mem_append_right _ hq)
    · exact hG p hp q hq
  have hs' : ∀ p ∈ fr ++ G, p.1 ≠ sd := fun p hp => by
    rcases List.mem_append.mp hp with hp | hp
    · exact hsf p hp
    · exact hA0 p (List.mem_append_left _ hp)
  have h0' : ∀ q ∈ tl0, q.1 ≠ sd := fun q hq => hA0 q (List.mem_append_right _ hq)
  refine queued_ok B F X T hk N hsd hS0 hA' h0' hs' hsm hz hstep hdp hun ?_
  intro h' tk' l r us nr tl' F' N' S' R' A' f1 f2 f3 f4 f5
  refine ret h' tk' l r us nr (G ++ tl') F' (by rw [List.append_assoc] at N'; exact N') ⟨tl', rfl, S', fun p hp q hq => A' p (.tail _ (.tail _ (.tail _ (List.mem_append_right _ hp)))) q hq⟩ R' (fun p hp q hq => ?_) (fun p hp => f1 p (List.mem_append_left _ hp)) (fun p hp => f2 p (List.mem_append_left _ hp)) f3 f4 f5
  rcases List.mem_append.mp hq with hq | hq
  · rcases List.mem_cons.mp hp with rfl | hp
    · exact f1 q (List.mem_append_right _ hq)
    rcases List.mem_cons.mp hp with rfl | hp
    · exact f2 q (List.mem_append_right _ hq)
    rcases List.mem_cons.mp hp with rfl | hp
    · exact hA0 q (List.mem_append_left _ hq)
    · exact hA p hp q (List.mem_append_left _ hq)
  · refine A' p ?_ q hq
    rcases List.mem_cons.mp hp with rfl | hp
    · exact .head _
    rcases List.mem_cons.mp hp with rfl | hp
    · exact .tail _ (.head _)
    rcases List.mem_cons.mp hp with rfl | hp
    · exact .tail _ (.tail _ (.head _))
    · exact .tail _ (.tail _ (.tail _ (List.mem_append_left _ hp)))
theorem queued_okF_a : ∀ x, queued_okF_P x := pk_all e_47 queued_okF_c
theorem e_48 : cc = k_48 := pk_next e_47 queued_okF_a
theorem queued_okF {prog w p loose mean mg mb dp un gd cn cs a ccd cl outer A₀ base h₀ L m s Q E tl sd pg gl t1 t2 t3 z osd al fr st G tg ta tm tw g k many word b out st'} : queued_okF_S prog w p loose mean mg mb dp un gd cn cs a ccd cl outer A₀ base h₀ L m s Q E tl sd pg gl t1 t2 t3 z osd al fr st G tg ta tm tw g k many word b out st' :=
  queued_okF_a (prog, w, p, loose, mean, mg, mb, dp, un, gd, cn, cs, a, ccd, cl, outer, A₀, base, h₀, L, m, s, Q, E, tl, tg, t1, t2, g, k, c_wl, many, pg, sd, ta, t3, osd, tm, tw, c_t4, c_t5, al, gl, c_n, c_vs, c_x, c_xd, c_q, c_pd, c_hl, c_dc, c_t6, c_nt, c_n1, c_n3, c_cnt, c_hs, c_ws, c_held, c_rows, c_oc, c_TT, z, fr, st, word, c_pl, c_tc, c_c, c_gl_, c_ng, c_gs, c_pv, c_to, c_o, b, out, c_tx, G, c_al_, c_na, c_as, st', cc.2.2.2.2.2.2.2.2.2.2.2.2.2.2.2.2.2.2.2.2.2.2.2.2.2.2.2.2.2.2.2.2.2.2.2.2.2.2.2.2.2.2.2.2.2.2.2.2.2.2.2.2.2.2.2.2.2.2.2.2.2.2.2.2.2.2.2.2.2.2.2.2.2.2.2.2.2.2.2.2.2.2.2)
theorem plain_okF_c : plain_okF_S c_prog c_w c_p c_loose c_mean c_mg c_mb c_dp c_un c_gd c_cn c_cs c_a c_ccd c_cl c_outer c_A₀ c_base c_h₀ c_L c_m c_s c_Q c_E c_tl c_sd c_pg c_gl c_t1 c_t2 c_t3 c_z c_osd c_al c_fr c_st c_G c_tg c_ta c_tm c_tw c_g c_k c_many c_word c_b c_out c_st' := by
  refine' (?g : ∀ prog w p loose mean mg mb dp un gd cn cs a ccd cl outer A₀ base h₀ L m s Q E tl sd pg gl t1 t2 t3 z osd al fr st G tg ta tm tw g k many word b out st', plain_okF_S prog w p loose mean mg mb dp un gd cn cs a ccd cl outer A₀ base h₀ L m s Q E tl sd pg gl t1 t2 t3 z osd al fr st G tg ta tm tw g k many word b out st') c_prog c_w c_p c_loose c_mean c_mg c_mb c_dp c_un c_gd c_cn c_cs c_a c_ccd c_cl c_outer c_A₀ c_base c_h₀ c_L c_m c_s c_Q c_E c_tl c_sd c_pg c_gl c_t1 c_t2 c_t3 c_z c_osd c_al c_fr c_st c_G c_tg c_ta c_tm c_tw c_g c_k c_many c_word c_b c_out c_st'
  intros prog w p loose mean mg mb dp un gd cn cs a ccd cl outer A₀ base h₀ L m s Q E tl sd pg gl t1 t2 t3 z osd al fr st G tg ta tm tw g k many word b out st'
  intros B F X T hk N hsd hS hA hA0 hsf hsm hz hstep hdp hun ret
  obtain ⟨tl0, rfl, hS0, hG⟩ := hS
  have e : fr ++ (G ++ tl0) = (fr ++ G) ++ tl0 := (List.append_assoc ..).symm
  rw [e] at N
  have hA' : Apart (fr ++ G) tl0 := fun p hp q hq => by
    rcases List.mem_append.mp hp with hp | hp
    · exact hA p hp q (List.mem_append_right _ hq)
    · exact hG p hp q hq
  have hs' : ∀ p ∈ fr ++ G, p.1 ≠ sd := fun p hp => by
    rcases List.mem_append.mp hp with hp | hp
    · exact hsf p hp
    · exact hA0 p (List.mem_append_left _ hp)
  have h0' : ∀ q ∈ tl0, q.1 ≠ sd := fun q hq => hA0 q (List.mem_append_right _ hq)
  refine plain_ok B F X T hk N hsd hS0 hA' h0' hs' hsm hz hstep hdp hun ?_
  intro h' tk' l r us nr tl' F' N' S' R' A' f1 f2 f3 f4 f5
  refine ret h' tk' l r us nr (G ++ tl') F' (by rw [List.append_assoc] at N'; exact N') ⟨tl', rfl, S', fun p hp q hq => A' p (.tail _ (.tail _ (.tail _ (List.mem_append_right _ hp)))) q hq⟩ R' (fun p hp q hq => ?_) (fun p hp => f1 p (List.mem_append_left _ hp)) (fun p hp => f2 p (List.mem_append_left _ hp)) f3 f4 f5
  rcases List.mem_append.mp hq with hq | hq
  · rcases List.mem_cons.mp hp with rfl | hp
    · exact f1 q (List.mem_append_right _ hq)
    rcases List.mem_cons.mp hp with rfl | hp
    · exact f2 q (List.mem_append_right _ hq)
    rcases List.mem_cons.mp hp with rfl | hp
    · exact hA0 q (List.mem_append_left _ hq)
    · exact hA p hp q (List.mem_append_left _ hq)
  · refine A' p ?_ q hq
    rcases List.mem_cons.mp hp with rfl | hp
    · exact .head _
    rcases List.mem_cons.mp hp with rfl | hp
    · exact .tail _ (.head _)
    rcases List.mem_cons.mp hp with rfl | hp
    · exact .tail _ (.tail _ (.head _))
    · exact .tail _ (.tail _ (.tail _ (List.mem_append_left _ hp)))
theorem plain_okF_a : ∀ x, plain_okF_P x := pk_all e_48 plain_okF_c
theorem e_49 : cc = k_49 := pk_next e_48 plain_okF_a
theorem plain_okF {prog w p loose mean mg mb dp un gd cn cs a ccd cl outer A₀ base h₀ L m s Q E tl sd pg gl t1 t2 t3 z osd al fr st G tg ta tm tw g k many word b out st'} : plain_okF_S prog w p loose mean mg mb dp un gd cn cs a ccd cl outer A₀ base h₀ L m s Q E tl sd pg gl t1 t2 t3 z osd al fr st G tg ta tm tw g k many word b out st' :=
  plain_okF_a (prog, w, p, loose, mean, mg, mb, dp, un, gd, cn, cs, a, ccd, cl, outer, A₀, base, h₀, L, m, s, Q, E, tl, tg, t1, t2, g, k, c_wl, many, pg, sd, ta, t3, osd, tm, tw, c_t4, c_t5, al, gl, c_n, c_vs, c_x, c_xd, c_q, c_pd, c_hl, c_dc, c_t6, c_nt, c_n1, c_n3, c_cnt, c_hs, c_ws, c_held, c_rows, c_oc, c_TT, z, fr, st, word, c_pl, c_tc, c_c, c_gl_, c_ng, c_gs, c_pv, c_to, c_o, b, out, c_tx, G, c_al_, c_na, c_as, st', cc.2.2.2.2.2.2.2.2.2.2.2.2.2.2.2.2.2.2.2.2.2.2.2.2.2.2.2.2.2.2.2.2.2.2.2.2.2.2.2.2.2.2.2.2.2.2.2.2.2.2.2.2.2.2.2.2.2.2.2.2.2.2.2.2.2.2.2.2.2.2.2.2.2.2.2.2.2.2.2.2.2.2.2)
theorem queued_badF_c : queued_badF_S c_prog c_w c_p c_loose c_mean c_mg c_mb c_dp c_un c_gd c_cn c_cs c_a c_ccd c_cl c_outer c_A₀ c_base c_h₀ c_L c_m c_s c_Q c_E c_tl c_sd c_pg c_gl c_t1 c_t2 c_t3 c_z c_osd c_al c_fr c_st c_G c_tg c_ta c_tm c_tw c_g c_k c_many c_word c_tx := by
  refine' (?g : ∀ prog w p loose mean mg mb dp un gd cn cs a ccd cl outer A₀ base h₀ L m s Q E tl sd pg gl t1 t2 t3 z osd al fr st G tg ta tm tw g k many word tx, queued_badF_S prog w p loose mean mg mb dp un gd cn cs a ccd cl outer A₀ base h₀ L m s Q E tl sd pg gl t1 t2 t3 z osd al fr st G tg ta tm tw g k many word tx) c_prog c_w c_p c_loose c_mean c_mg c_mb c_dp c_un c_gd c_cn c_cs c_a c_ccd c_cl c_outer c_A₀ c_base c_h₀ c_L c_m c_s c_Q c_E c_tl c_sd c_pg c_gl c_t1 c_t2 c_t3 c_z c_osd c_al c_fr c_st c_G c_tg c_ta c_tm c_tw c_g c_k c_many c_word c_tx
  intros prog w p loose mean mg mb dp un gd cn cs a ccd cl outer A₀ base h₀ L m s Q E tl sd pg gl t1 t2 t3 z osd al fr st G tg ta tm tw g k many word tx
  intros B F X T hk N hsd hS hA hA0 hsf hsm hz hstep hdp hun ret
  obtain ⟨tl0, rfl, hS0, hG⟩ := hS
  have e : fr ++ (G ++ tl0) = (fr ++ G) ++ tl0 := (List.append_assoc ..).symm
  rw [e] at N
  have hA' : Apart (fr ++ G) tl0 := fun p hp q hq => by
    rcases List.mem_append.mp hp with hp | hp
    · exact hA p hp q (List.mem_append_right _ hq)
    · exact hG p hp q hq
  have hs' : ∀ p ∈ fr ++ G, p.1 ≠ sd := fun p hp => by
    rcases List.mem_append.mp hp with hp | hp
    · exact hsf p hp
    · exact hA0 p (List.mem_append_left _ hp)
  have h0' : ∀ q ∈ tl0, q.1 ≠ sd := fun q hq => hA0 q (List.mem_append_right _ hq)
  refine queued_bad B F X T hk N hsd hS0 hA' h0' hs' hsm hz hstep hdp hun ?_
  intro g' h' tk' e d D ta tb tcc va vb u1 u2 FG RR UU
  rw [List.append_assoc] at RR
  exact ret g' h' tk' e d D ta tb tcc va vb u1 u2 FG RR UU
theorem queued_badF_a : ∀ x, queued_badF_P x := pk_all e_49 queued_badF_c
theorem e_50 : cc = k_50 := pk_next e_49 queued_badF_a
theorem queued_badF {prog w p loose mean mg mb dp un gd cn cs a ccd cl outer A₀ base h₀ L m s Q E tl sd pg gl t1 t2 t3 z osd al fr st G tg ta tm tw g k many word tx} : queued_badF_S prog w p loose mean mg mb dp un gd cn cs a ccd cl outer A₀ base h₀ L m s Q E tl sd pg gl t1 t2 t3 z osd al fr st G tg ta tm tw g k many word tx :=
  queued_badF_a (prog, w, p, loose, mean, mg, mb, dp, un, gd, cn, cs, a, ccd, cl, outer, A₀, base, h₀, L, m, s, Q, E, tl, tg, t1, t2, g, k, c_wl, many, pg, sd, ta, t3, osd, tm, tw, c_t4, c_t5, al, gl, c_n, c_vs, c_x, c_xd, c_q, c_pd, c_hl, c_dc, c_t6, c_nt, c_n1, c_n3, c_cnt, c_hs, c_ws, c_held, c_rows, c_oc, c_TT, z, fr, st, word, c_pl, c_tc, c_c, c_gl_, c_ng, c_gs, c_pv, c_to, c_o, c_b, c_out, tx, G, cc.2.2.2.2.2.2.2.2.2.2.2.2.2.2.2.2.2.2.2.2.2.2.2.2.2.2.2.2.2.2.2.2.2.2.2.2.2.2.2.2.2.2.2.2.2.2.2.2.2.2.2.2.2.2.2.2.2.2.2.2.2.2.2.2.2.2.2.2.2.2.2.2.2.2.2.2.2.2.2)
theorem plain_badF_c : plain_badF_S c_prog c_w c_p c_loose c_mean c_mg c_mb c_dp c_un c_gd c_cn c_cs c_a c_ccd c_cl c_outer c_A₀ c_base c_h₀ c_L c_m c_s c_Q c_E c_tl c_sd c_pg c_gl c_t1 c_t2 c_t3 c_z c_osd c_al c_fr c_st c_G c_tg c_ta c_tm c_tw c_g c_k c_many c_word c_tx := by
  refine' (?g : ∀ prog w p loose mean mg mb dp un gd cn cs a ccd cl outer A₀ base h₀ L m s Q E tl sd pg gl t1 t2 t3 z osd al fr st G tg ta tm tw g k many word tx, plain_badF_S prog w p loose mean mg mb dp un gd cn cs a ccd cl outer A₀ base h₀ L m s Q E tl sd pg gl t1 t2 t3 z osd al fr st G tg ta tm tw g k many word tx) c_prog c_w c_p c_loose c_mean c_mg c_mb c_dp c_un c_gd c_cn c_cs c_a c_ccd c_cl c_outer c_A₀ c_base c_h₀ c_L c_m c_s c_Q c_E c_tl c_sd c_pg c_gl c_t1 c_t2 c_t3 c_z c_osd c_al c_fr c_st c_G c_tg c_ta c_tm c_tw c_g c_k c_many c_word c_tx
  intros prog w p loose mean mg mb dp un gd cn cs a ccd cl outer A₀ base h₀ L m s Q E tl sd pg gl t1 t2 t3 z osd al fr st G tg ta tm tw g k many word tx
  intros B F X T hk N hsd hS hA hA0 hsf hsm hz hstep hdp hun ret
  obtain ⟨tl0, rfl, hS0, hG⟩ := hS
  have e : fr ++ (G ++ tl0) = (fr ++ G) ++ tl0 := (List.append_assoc ..).symm
  rw [e] at N
  have hA' : Apart (fr ++ G) tl0 := fun p hp q hq => by
    rcases List.mem_append.mp hp with hp | hp
    · exact hA p hp q (List.mem_append_right _ hq)
    · exact hG p hp q hq
  have hs' : ∀ p ∈ fr ++ G, p.1 ≠ sd := fun p hp => by
    rcases List.mem_append.mp hp with hp | hp
    · exact hsf p hp
    · exact hA0 p (List.mem_append_left _ hp)
  have h0' : ∀ q ∈ tl0, q.1 ≠ sd := fun q hq => hA0 q (List.mem_append_right _ hq)
  refine plain_bad B F X T hk N hsd hS0 hA' h0' hs' hsm hz hstep hdp hun ?_
  intro g' h' tk' e d D ta tb tcc va vb u1 u2 FG RR UU
  rw [List.append_assoc] at RR
  exact ret g' h' tk' e d D ta tb tcc va vb u1 u2 FG RR UU
theorem plain_badF_a : ∀ x, plain_badF_P x := pk_all e_50 plain_badF_c
theorem e_51 : cc = k_51 := pk_next e_50 plain_badF_a
theorem plain_badF {prog w p loose mean mg mb dp un gd cn cs a ccd cl outer A₀ base h₀ L m s Q E tl sd pg gl t1 t2 t3 z osd al fr st G tg ta tm tw g k many word tx} : plain_badF_S prog w p loose mean mg mb dp un gd cn cs a ccd cl outer A₀ base h₀ L m s Q E tl sd pg gl t1 t2 t3 z osd al fr st G tg ta tm tw g k many word tx :=
  plain_badF_a (prog, w, p, loose, mean, mg, mb, dp, un, gd, cn, cs, a, ccd, cl, outer, A₀, base, h₀, L, m, s, Q, E, tl, tg, t1, t2, g, k, c_wl, many, pg, sd, ta, t3, osd, tm, tw, c_t4, c_t5, al, gl, c_n, c_vs, c_x, c_xd, c_q, c_pd, c_hl, c_dc, c_t6, c_nt, c_n1, c_n3, c_cnt, c_hs, c_ws, c_held, c_rows, c_oc, c_TT, z, fr, st, word, c_pl, c_tc, c_c, c_gl_, c_ng, c_gs, c_pv, c_to, c_o, c_b, c_out, tx, G, cc.2.2.2.2.2.2.2.2.2.2.2.2.2.2.2.2.2.2.2.2.2.2.2.2.2.2.2.2.2.2.2.2.2.2.2.2.2.2.2.2.2.2.2.2.2.2.2.2.2.2.2.2.2.2.2.2.2.2.2.2.2.2.2.2.2.2.2.2.2.2.2.2.2.2.2.2.2.2.2)
theorem stands_okF_c : stands_okF_S c_prog c_w c_p c_loose c_mean c_mg c_mb c_dp c_un c_gd c_cn c_cs c_a c_ccd c_cl c_outer c_A₀ c_base c_h₀ c_L c_m c_s c_Q c_E c_tl c_sd c_pg c_gl c_t1 c_t2 c_t3 c_z c_osd c_al c_fr c_st c_G := by
  refine' (?g : ∀ prog w p loose mean mg mb dp un gd cn cs a ccd cl outer A₀ base h₀ L m s Q E tl sd pg gl t1 t2 t3 z osd al fr st G, stands_okF_S prog w p loose mean mg mb dp un gd cn cs a ccd cl outer A₀ base h₀ L m s Q E tl sd pg gl t1 t2 t3 z osd al fr st G) c_prog c_w c_p c_loose c_mean c_mg c_mb c_dp c_un c_gd c_cn c_cs c_a c_ccd c_cl c_outer c_A₀ c_base c_h₀ c_L c_m c_s c_Q c_E c_tl c_sd c_pg c_gl c_t1 c_t2 c_t3 c_z c_osd c_al c_fr c_st c_G
  intros prog w p loose mean mg mb dp un gd cn cs a ccd cl outer A₀ base h₀ L m s Q E tl sd pg gl t1 t2 t3 z osd al fr st G
  intros B F X T hk N hsd hS hA hA0 hsf hsm hz hM hdp hun ret
  obtain ⟨tl0, rfl, hS0, hG⟩ := hS
  have e : fr ++ (G ++ tl0) = (fr ++ G) ++ tl0 := (List.append_assoc ..).symm
  rw [e] at N
  have hA' : Apart (fr ++ G) tl0 := fun p hp q hq => by
    rcases List.mem_append.mp hp with hp | hp
    · exact hA p hp q (List.mem_append_right _ hq)
    · exact hG p hp q hq
  have hs' : ∀ p ∈ fr ++ G, p.1 ≠ sd := fun p hp => by
    rcases List.mem_append.mp hp with hp | hp
    · exact hsf p hp
    · exact hA0 p (List.mem_append_left _ hp)
  have h0' : ∀ q ∈ tl0, q.1 ≠ sd := fun q hq => hA0 q (List.mem_append_right _ hq)
  refine stands_ok B F X T hk N hsd hS0 hA' h0' hs' hsm hz hM hdp hun ?_
  intro h' tk' F' N'
  rw [List.append_assoc] at N'
  exact ret h' tk' F' N'
theorem stands_okF_a : ∀ x, stands_okF_P x := pk_all e_51 stands_okF_c
theorem e_52 : cc = k_52 := pk_next e_51 stands_okF_a
theorem stands_okF {prog w p loose mean mg mb dp un gd cn cs a ccd cl outer A₀ base h₀ L m s Q E tl sd pg gl t1 t2 t3 z osd al fr st G} : stands_okF_S prog w p loose mean mg mb dp un gd cn cs a ccd cl outer A₀ base h₀ L m s Q E tl sd pg gl t1 t2 t3 z osd al fr st G :=
  stands_okF_a (prog, w, p, loose, mean, mg, mb, dp, un, gd, cn, cs, a, ccd, cl, outer, A₀, base, h₀, L, m, s, Q, E, tl, c_tg, t1, t2, c_g, c_k, c_wl, c_many, pg, sd, c_ta, t3, osd, c_tm, c_tw, c_t4, c_t5, al, gl, c_n, c_vs, c_x, c_xd, c_q, c_pd, c_hl, c_dc, c_t6, c_nt, c_n1, c_n3, c_cnt, c_hs, c_ws, c_held, c_rows, c_oc, c_TT, z, fr, st, c_word, c_pl, c_tc, c_c, c_gl_, c_ng, c_gs, c_pv, c_to, c_o, c_b, c_out, c_tx, G, cc.2.2.2.2.2.2.2.2.2.2.2.2.2.2.2.2.2.2.2.2.2.2.2.2.2.2.2.2.2.2.2.2.2.2.2.2.2.2.2.2.2.2.2.2.2.2.2.2.2.2.2.2.2.2.2.2.2.2.2.2.2.2.2.2.2.2.2.2.2.2.2.2.2.2.2.2.2.2.2)
end
-- D1
section
local macro_rules | `(tactic| walk_at $k:str) => mtRun [] k.getString
local macro_rules | `(tactic| walk_at $k:str) => mtRun [
  ("call ref", "F4 S5 Kk_here D F2 S20 R @17 astands_okF ?B ?F ?X ?T ?hk ( @2 anews_sub ?N ( @2 asub_scene ?pu ?cu ?hsd ?hS ?hA ?hA0 ?hsf ?hsm ?hz ?hM ?dp ?un ?_ C hM H Kassumption C hS H Kassumption C hsd H Kassumption C hsm H Kassumption C hz H Kassumption C B Kk_asm C F Kk_asm C X Kk_asm C T Kk_asm C hk E arfl C N Kk_asm C pu WMINE~pull C cu WMINE~cut C hA WMINE~apart C hA0 Kk_all C hsf WMINE~nesr C dp S2 T d2 ktrTop Around.deeper 0 Komega C un S2 T d2 ktrTop Around.deeper 0 Komega Kk_whole X I4 h' tk' F' N' T s2 List.cons_append List.nil_append 1 N' T Kk_sweep S5 Kk_here D F2 S20 R @17 aplain_okF ?B ?F ?X ?T ?hk ( @2 anews_sub ?N ( @2 asub_scene ?pu ?cu ?hsd ?hS ?hA ?hA0 ?hsf ?hsm ?hz ?hst ?dp ?un ?_ C hst H Kassumption C hS H Kassumption C hsd H Kassumption C hsm H Kassumption C hz H Kassumption C B Kk_asm C F Kk_asm C X Kk_asm C T Kk_asm C hk E arfl C N Kk_asm C pu WMINE~pull C cu WMINE~cut C hA WMINE~apart C hA0 Kk_all C hsf WMINE~nesr C dp S2 T d2 ktrTop Around.deeper 0 Komega C un S2 T d2 ktrTop Around.deeper 0 Komega Kk_whole X I17 h' tk' l r us nr tl' F' N' S' R' A' nl' nr' lr' ls' rs' T s2 List.cons_append List.nil_append 1 N' T Kk_sweep S5 Kk_here D F2 S20 R @17 aqueued_okF ?B ?F ?X ?T ?hk ( @2 anews_sub ?N ( @2 asub_scene ?pu ?cu ?hsd ?hS ?hA ?hA0 ?hsf ?hsm ?hz ?hst ?dp ?un ?_ C hst H Kassumption C hS H Kassumption C hsd H Kassumption C hsm H Kassumption C hz H Kassumption C B Kk_asm C F Kk_asm C X Kk_asm C T Kk_asm C hk E arfl C N Kk_asm C pu WMINE~pull C cu WMINE~cut C hA WMINE~apart C hA0 Kk_all C hsf WMINE~nesr C dp S2 T d2 ktrTop Around.deeper 0 Komega C un S2 T d2 ktrTop Around.deeper 0 Komega Kk_whole X I17 h' tk' l r us nr tl' F' N' S' R' A' nl' nr' lr' ls' rs' T s2 List.cons_append List.nil_append 1 N' T Kk_sweep X")] k.getString
theorem deed_f_c : deed_f_S c_prog c_w c_p c_loose c_mean c_mg c_mb c_dp c_un c_gd c_cn c_cs c_a c_ccd c_cl c_outer c_A₀ c_base c_h₀ c_L c_m c_s c_Q c_E c_tl c_sd c_al_ c_pg c_gl c_tg c_ta c_tm c_tw c_t1 c_t2 c_t3 c_na c_z c_as c_asl c_asl1 c_g c_k c_many c_word c_b c_out c_st c_st1 c_st2 c_osd c_K c_fr c_ps := by
  refine' (?g : ∀ prog w p loose mean mg mb dp un gd cn cs a ccd cl outer A₀ base h₀ L m s Q E tl sd al pg gl tg ta tm tw t1 t2 t3 na z as asl asl1 g k many word b out st st1 st2 osd K fr ps, deed_f_S prog w p loose mean mg mb dp un gd cn cs a ccd cl outer A₀ base h₀ L m s Q E tl sd al pg gl tg ta tm tw t1 t2 t3 na z as asl asl1 g k many word b out st st1 st2 osd K fr ps) c_prog c_w c_p c_loose c_mean c_mg c_mb c_dp c_un c_gd c_cn c_cs c_a c_ccd c_cl c_outer c_A₀ c_base c_h₀ c_L c_m c_s c_Q c_E c_tl c_sd c_al_ c_pg c_gl c_tg c_ta c_tm c_tw c_t1 c_t2 c_t3 c_na c_z c_as c_asl c_asl1 c_g c_k c_many c_word c_b c_out c_st c_st1 c_st2 c_osd c_K c_fr c_ps
  intros prog w p loose mean mg mb dp un gd cn cs a ccd cl outer A₀ base h₀ L m s Q E tl sd al pg gl tg ta tm tw t1 t2 t3 na z as asl asl1 g k many word b out st st1 st2 osd K fr ps
  intros B F X T hk N hsd hS hK hl hsm hsm1 hsm2 hz hz1 h1 h2 hM hras hal hasl1T hasl1F hrem hnd ha1 ha2 ha3 hCH hdp hun ret
  walk_at "MINE enter"
  (repeat ((fail_if_success (with_reducible show wpAny _ _ (eval (Expr.Lambda _ _ _ _) _) _ _ _)); first | (k_unfold; (try dsimp only)) | walk1 | (dsimp only; walk1) | (leave1; walk_say "STEP leave1"; (try dsimp only))))
  k_dflt (refine' kla_eval ?da ?_)
  case da => exact rfl
  k_dflt (refine' lam_step (Z := fun G9 t9 => ScnF prog w pg gl (G9 ++ fr) z st t9 ∧ Apart G9 fr) ?Fa ?Na ?Ta ?Ca ?cda ?pua ?cua ?hPa ?hPta ?hAa ⟨hS, hK⟩ hS.inG hl (fun C9 => ScnL.beside) ?tba ?nba ?cla ?ka)
  case Fa => k_asm
  case Na => k_asm
  case Ta => k_asm
  case Ca => kn_code
  case cda => exact rfl
  case pua => walk_at "MINE pull"
  case cua => walk_at "MINE cut"
  case hPa => walk_at "MINE nesr"
  case hPta => k_all
  case hAa => walk_at "MINE apart"
  case tba => exact True.intro
  case nba => exact rfl
  case cla => exact rfl
  case ka =>
   intro fa9 ca9 oca9 vsa9 ta9 cta9 psa9 Ga9 tla9 ha9 tka9 Fa9 Na9 Aa9 la9 ina9 hZa9 gra9 iga9 da9 qa9 hla9
   simp only [List.cons_append, List.nil_append] at Na9 Aa9 la9
   obtain ⟨hSa9, hKa9⟩ := hZa9
   k_lt la9
   (try k_sweep)
   (repeat ((fail_if_success (with_reducible show wpAny _ _ (call (Value.ref fa9) _) _ _ _)); first | (k_unfold; (try dsimp only)) | walk1 | (dsimp only; walk1) | (leave1; walk_say "STEP leave1"; (try dsimp only))))
   kn_here
   refine wpAny_call ?_
   k_dflt (refine' kla_code ?k1a ?k2a ?k3a ?k4a ?k5a ?kAa ?kFa ?kKa ?k6a ?k7a ?k8a ?k9a ?kBa ?_ ?c2a ?c3a ?c4a ?c5a)
   case kAa => exact rfl
   case kFa => exact rfl
   case kKa => exact rfl
   case k1a => k_asm
   case k2a => k_asm
   case k3a => k_asm
   case k4a => k_asm
   case k5a => k_asm
   case k6a => k_mem
   case k7a => exact codeRec_news (by k_asm) (by (repeat (first | exact ina9 | refine List.Mem.tail _ ?_))) da9 qa9
   case k8a => k_room
   case k9a => exact rfl
   case c5a => decide
   case kBa => exact locs rfl
   case c2a => exact rfl
   case c3a => exact rfl
   case c4a => exact rfl
   intro ga8 La8 ha8 FGa8 Fa8 Na8 Ba8 Xa8 Ta8
   (try dsimp only)
   (try k_lift Ba8)
   (try k_fold)
   (repeat ((fail_if_success (with_reducible show wpAny _ _ (call (Value.ref 263) _) _ _ _)); first | (k_unfold; (try dsimp only)) | walk1 | (dsimp only; walk1) | (leave1; walk_say "STEP leave1"; (try dsimp only))))
   walk1
   (with_reducible rename ScnF _ _ _ _ _ _ _ _ => hS2)
   (repeat ((fail_if_success (with_reducible show wpAny _ _ (eval (Expr.Lambda _ _ _ _) _) _ _ _)); first | (k_unfold; (try dsimp only)) | walk1 | (dsimp only; walk1) | (leave1; walk_say "STEP leave1"; (try dsimp only))))
   k_dflt (refine' kla_eval ?db ?_)
   case db => exact rfl
   k_dflt (refine' lam_step (Z := fun G9 t9 => ScnF prog w pg gl (G9 ++ fr) z st1 t9 ∧ Apart G9 fr) ?Fb ?Nb ?Tb ?Cb ?cdb ?pub ?cub ?hPb ?hPtb ?hAb ⟨hS2, hKa9⟩ hS2.inG hla9 (fun C9 => ScnL.beside) ?tbb ?nbb ?clb ?kb)
   case Fb => k_asm
   case Nb => k_asm
   case Tb => k_asm
   case Cb => kn_code
   case cdb => exact rfl
   case pub => walk_at "MINE pull"
   case cub => walk_at "MINE cut"
   case hPb => walk_at "MINE nesr"
   case hPtb => k_all
   case hAb => walk_at "MINE apart"
   case tbb => exact True.intro
   case nbb => exact rfl
   case clb => exact rfl
   case kb =>
    intro fb9 cb9 ocb9 vsb9 tb9 ctb9 psb9 Gb9 tlb9 hb9 tkb9 Fb9 Nb9 Ab9 lb9 inb9 hZb9 grb9 igb9 db9 qb9 hlb9
    simp only [List.cons_append, List.nil_append] at Nb9 Ab9 lb9
    obtain ⟨hSb9, hKb9⟩ := hZb9
    k_lt lb9
    (try k_sweep)
    (repeat ((fail_if_success (with_reducible show wpAny _ _ (call (Value.ref fb9) _) _ _ _)); first | (k_unfold; (try dsimp only)) | walk1 | (dsimp only; walk1) | (leave1; walk_say "STEP leave1"; (try dsimp only))))
    kn_here
    refine wpAny_call ?_
    k_dflt (refine' kla_code ?k1b ?k2b ?k3b ?k4b ?k5b ?kAb ?kFb ?kKb ?k6b ?k7b ?k8b ?k9b ?kBb ?_ ?c2b ?c3b ?c4b ?c5b)
    case kAb => exact rfl
    case kFb => exact rfl
    case kKb => exact rfl
    case k1b => k_asm
    case k2b => k_asm
    case k3b => k_asm
    case k4b => k_asm
    case k5b => k_asm
    case k6b => k_mem
    case k7b => exact codeRec_news (by k_asm) (by (repeat (first | exact inb9 | refine List.Mem.tail _ ?_))) db9 qb9
    case k8b => k_room
    case k9b => exact rfl
    case c5b => decide
    case kBb => exact locs rfl
    case c2b => exact rfl
    case c3b => exact rfl
    case c4b => exact rfl
    intro gb8 Lb8 hb8 FGb8 Fb8 Nb8 Bb8 Xb8 Tb8
    (try dsimp only)
    (try k_lift Bb8)
    (try k_fold)
    k_steps
    all_goals dsimp only
    · ((with_reducible rename News _ _ _ _ => kN9); (try simp only [List.push_toArray] at kN9))
      (k_dflt (refine' list_turnsU (JRem al _ "other" _ asl1 out) ?hhp1 ?Fp1 (news_sub ?Np1 (Pull.sub ?pup1)) ?hmp1 ?hLp1 (JRem.start ?rp1 ?zp1) ?hJlp1 ?turnp1 ?donep1))
      case hhp1 => exact rfl
      case Fp1 => k_asm
      case Np1 => k_asm
      case hLp1 => exact rfl
      case pup1 => walk_at "MINE pull"
      case rp1 => first | (rw [hasl1T (by assumption)]; exact hras) | (rw [hasl1F (by assumption)]; exact LReads.snoc hras .int) | fail "mine"
      case hmp1 => k_mem
      case zp1 => first | omega | (simp only [List.length_append, List.length_cons, List.length_nil]; omega) | fail "mine"
      case hJlp1 => (rintro i m nx ⟨u, vs9, n9, rfl, rfl, _, _⟩; k_mem)
      case turnp1 =>
        rintro i v I oI m₁ nx s₁ hv ⟨u, vs9, n9, rfl, rfl, r9, z9⟩ F N off
        obtain ⟨k9, t9, rfl, hk9⟩ := LReads.at_int (by assumption) hv
        have hc9 := hrem i k9 hk9
        k_steps
        refine' turn_rem hk9 r9 z9 off ?fp2 ?np2 ?sp2
        case fp2 => k_asm
        case np2 => k_asm
        case sp2 => walk_at "MINE sub"
      case donep1 =>
        rintro m₁ nx h tk ⟨u, vs9, n9, rfl, rfl, r9, z9⟩ F N
        dsimp only
        k_steps
        refine' ret _ _ _ _ _ _ _ ?fp3 (news_sub ?np3 (List.forall_mem_cons.mpr ⟨?tp3, ?sp3⟩)) ?Sp3 hKb9 (LamOk.two grb9 iga9 da9 qa9 igb9 db9 qb9 hlb9) (remAll_end r9 ?yp3) ?a1p3 ?a2p3 ?a3p3
        case fp3 => k_asm
        case np3 => k_asm
        case Sp3 => with_reducible assumption
        case tp3 => k_mem
        case sp3 => walk_at "MINE sub"
        case yp3 => with_reducible assumption
        case a1p3 => k_all
        case a2p3 => k_all
        case a3p3 => k_all
    · ((with_reducible rename News _ _ _ _ => kN9); (try simp only [List.push_toArray] at kN9))
      (k_dflt (refine' list_turnsU (JRem al _ "other" _ asl1 out) ?hhq1 ?Fq1 (news_sub ?Nq1 (Pull.sub ?puq1)) ?hmq1 ?hLq1 (JRem.start ?rq1 ?zq1) ?hJlq1 ?turnq1 ?doneq1))
      case hhq1 => exact rfl
      case Fq1 => k_asm
      case Nq1 => k_asm
      case hLq1 => exact rfl
      case puq1 => walk_at "MINE pull"
      case rq1 => first | (rw [hasl1T (by assumption)]; exact hras) | (rw [hasl1F (by assumption)]; exact LReads.snoc hras .int) | fail "mine"
      case hmq1 => k_mem
      case zq1 => first | omega | (simp only [List.length_append, List.length_cons, List.length_nil]; omega) | fail "mine"
      case hJlq1 => (rintro i m nx ⟨u, vs9, n9, rfl, rfl, _, _⟩; k_mem)
      case turnq1 =>
        rintro i v I oI m₁ nx s₁ hv ⟨u, vs9, n9, rfl, rfl, r9, z9⟩ F N off
        obtain ⟨k9, t9, rfl, hk9⟩ := LReads.at_int (by assumption) hv
        have hc9 := hrem i k9 hk9
        k_steps
        refine' turn_rem hk9 r9 z9 off ?fq2 ?nq2 ?sq2
        case fq2 => k_asm
        case nq2 => k_asm
        case sq2 => walk_at "MINE sub"
      case doneq1 =>
        rintro m₁ nx h tk ⟨u, vs9, n9, rfl, rfl, r9, z9⟩ F N
        dsimp only
        k_steps
        refine' ret _ _ _ _ _ _ _ ?fq3 (news_sub ?nq3 (List.forall_mem_cons.mpr ⟨?tq3, ?sq3⟩)) ?Sq3 hKb9 (LamOk.two grb9 iga9 da9 qa9 igb9 db9 qb9 hlb9) (remAll_end r9 ?yq3) ?a1q3 ?a2q3 ?a3q3
        case fq3 => k_asm
        case nq3 => k_asm
        case Sq3 => with_reducible assumption
        case tq3 => k_mem
        case sq3 => walk_at "MINE sub"
        case yq3 => with_reducible assumption
        case a1q3 => k_all
        case a2q3 => k_all
        case a3q3 => k_all
theorem deed_f_a : ∀ x, deed_f_P x := pk_all e_52 deed_f_c
theorem e_53 : cc = k_53 := pk_next e_52 deed_f_a
theorem deed_f {prog w p loose mean mg mb dp un gd cn cs a ccd cl outer A₀ base h₀ L m s Q E tl sd al pg gl tg ta tm tw t1 t2 t3 na z as asl asl1 g k many word b out st st1 st2 osd K fr ps} : deed_f_S prog w p loose mean mg mb dp un gd cn cs a ccd cl outer A₀ base h₀ L m s Q E tl sd al pg gl tg ta tm tw t1 t2 t3 na z as asl asl1 g k many word b out st st1 st2 osd K fr ps :=
  deed_f_a (prog, w, p, loose, mean, mg, mb, dp, un, gd, cn, cs, a, ccd, cl, outer, A₀, base, h₀, L, m, s, Q, E, tl, tg, t1, t2, g, k, c_wl, many, pg, sd, ta, t3, osd, tm, tw, c_t4, c_t5, c_al, gl, c_n, c_vs, c_x, c_xd, c_q, c_pd, c_hl, c_dc, c_t6, c_nt, c_n1, c_n3, c_cnt, c_hs, c_ws, c_held, c_rows, c_oc, c_TT, z, fr, st, word, c_pl, c_tc, c_c, c_gl_, c_ng, c_gs, c_pv, c_to, c_o, b, out, c_tx, c_G, al, na, as, c_st', asl, st2, c_D, c_l, c_pre, c_post, c_qs, c_tr, asl1, st1, K, ps, cc.2.2.2.2.2.2.2.2.2.2.2.2.2.2.2.2.2.2.2.2.2.2.2.2.2.2.2.2.2.2.2.2.2.2.2.2.2.2.2.2.2.2.2.2.2.2.2.2.2.2.2.2.2.2.2.2.2.2.2.2.2.2.2.2.2.2.2.2.2.2.2.2.2.2.2.2.2.2.2.2.2.2.2.2.2.2.2.2.2.2.2.2.2.2.2)
end
-- D3
section
local macro_rules | `(tactic| walk_at $k:str) => mtRun [
  ("call ref", "S5 Kk_here D F2 S20 R @17 astands_okF ?B ?F ?X ?T ?hk ( @2 anews_sub ?N ( @2 asub_scene ?pu ?cu ?hsd ?hS ?hA ?hA0 ?hsf ?hsm ?hz ?hM ?dp ?un ?_ C hM H Kassumption C hS H Kassumption C hsd H Kassumption C hsm H Kassumption C hz H Kassumption C B Kk_asm C F Kk_asm C X Kk_asm C T Kk_asm C hk E arfl C N Kk_asm C pu WMINE~pull C cu WMINE~cut C hA WMINE~apart C hA0 Kk_all C hsf WMINE~nesr C dp S2 T d2 ktrTop Around.deeper 0 Komega C un S2 T d2 ktrTop Around.deeper 0 Komega Kk_whole X I4 h' tk' F' N' T s2 List.cons_append List.nil_append 1 N' T Kk_sweep")] k.getString
local macro_rules | `(tactic| walk_at "MINE leaveT") => `(tactic| ((k_dflt (refine' LeaveT.of ?T ?F ?N ?k; (case F => k_asm); (case N => k_asm); (case T => first | with_reducible assumption | assumption | exact KtsTurn.refl | fail "mine"))); intro kg kT kF kN kB; (have kX := Frag.In.keeps (by assumption) kB.stays); (have kP := Top.keeps (by assumption) kB.stays); (try dsimp only)))
local macro_rules | `(tactic| walk_at $k:str) => mtRun [
  ("call ref", "F3 S4 Kk_here D F2 S20 R @17 aplain_badF ?B ?F ?X ?T ?hk ( @2 anews_sub ?N ( @2 asub_scene ?pu ?cu ?hsd ?hS ?hA ?hA0 ?hsf ?hsm ?hz ?hst ?dp ?un ?_ C hst H Kassumption C hS H Kassumption C hsd H Kassumption C hsm H Kassumption C hz H Kassumption C B Kk_asm C F Kk_asm C X Kk_asm C T Kk_asm C hk E arfl C N Kk_asm C pu WMINE~pull C cu WMINE~cut C hA WMINE~apart C hA0 Kk_all C hsf WMINE~nesr C dp S2 T d2 ktrTop Around.deeper 0 Komega C un S2 T d2 ktrTop Around.deeper 0 Komega Kk_whole X I16 g9 h9 tk9 e9 d9 D9 ta9 tb9 tc9 va9 vb9 u19 u29 FG9 R9 U9 T s2 List.cons_append List.nil_append 1 R9 S4 Kk_here D F2 S20 R @17 aqueued_badF ?B ?F ?X ?T ?hk ( @2 anews_sub ?N ( @2 asub_scene ?pu ?cu ?hsd ?hS ?hA ?hA0 ?hsf ?hsm ?hz ?hst ?dp ?un ?_ C hst H Kassumption C hS H Kassumption C hsd H Kassumption C hsm H Kassumption C hz H Kassumption C B Kk_asm C F Kk_asm C X Kk_asm C T Kk_asm C hk E arfl C N Kk_asm C pu WMINE~pull C cu WMINE~cut C hA WMINE~apart C hA0 Kk_all C hsf WMINE~nesr C dp S2 T d2 ktrTop Around.deeper 0 Komega C un S2 T d2 ktrTop Around.deeper 0 Komega Kk_whole X I16 g9 h9 tk9 e9 d9 D9 ta9 tb9 tc9 va9 vb9 u19 u29 FG9 R9 U9 T s2 List.cons_append List.nil_append 1 R9 X")] k.getString
theorem deed_b_c : deed_b_S c_prog c_w c_p c_loose c_mean c_mg c_mb c_dp c_un c_gd c_cn c_cs c_a c_ccd c_cl c_outer c_A₀ c_base c_h₀ c_L c_m c_s c_Q c_E c_tl c_sd c_al_ c_pg c_gl c_tg c_ta c_tm c_tw c_t1 c_t2 c_t3 c_na c_z c_as c_g c_k c_many c_word c_tx c_st c_osd c_K c_fr c_ps := by
  refine' (?g : ∀ prog w p loose mean mg mb dp un gd cn cs a ccd cl outer A₀ base h₀ L m s Q E tl sd al pg gl tg ta tm tw t1 t2 t3 na z as g k many word tx st osd K fr ps, deed_b_S prog w p loose mean mg mb dp un gd cn cs a ccd cl outer A₀ base h₀ L m s Q E tl sd al pg gl tg ta tm tw t1 t2 t3 na z as g k many word tx st osd K fr ps) c_prog c_w c_p c_loose c_mean c_mg c_mb c_dp c_un c_gd c_cn c_cs c_a c_ccd c_cl c_outer c_A₀ c_base c_h₀ c_L c_m c_s c_Q c_E c_tl c_sd c_al_ c_pg c_gl c_tg c_ta c_tm c_tw c_t1 c_t2 c_t3 c_na c_z c_as c_g c_k c_many c_word c_tx c_st c_osd c_K c_fr c_ps
  intros prog w p loose mean mg mb dp un gd cn cs a ccd cl outer A₀ base h₀ L m s Q E tl sd al pg gl tg ta tm tw t1 t2 t3 na z as g k many word tx st osd K fr ps
  intros B F X T hk N hsd hS hK hl hsm hz h1 h2 hM hnd ha1 ha2 ha3 hCH XB TB hout hdp hun ret
  walk_at "MINE enterT"
  (repeat ((fail_if_success (with_reducible show wpAny _ _ (eval (Expr.Lambda _ _ _ _) _) _ _ _)); first | (k_unfold; (try dsimp only)) | walk1 | (dsimp only; walk1) | (leave1; walk_say "STEP leave1"; (try dsimp only))))
  k_dflt (refine' kla_eval ?da ?_)
  case da => exact rfl
  k_dflt (refine' lam_step (Z := fun G9 t9 => ScnF prog w pg gl (G9 ++ fr) z st t9 ∧ Apart G9 fr) ?Fa ?Na ?Ta ?Ca ?cda ?pua ?cua ?hPa ?hPta ?hAa ⟨hS, hK⟩ hS.inG hl (fun C9 => ScnL.beside) ?tba ?nba ?cla ?ka)
  case Fa => k_asm
  case Na => k_asm
  case Ta => k_asm
  case Ca => kn_code
  case cda => exact rfl
  case pua => walk_at "MINE pull"
  case cua => walk_at "MINE cut"
  case hPa => walk_at "MINE nesr"
  case hPta => k_all
  case hAa => walk_at "MINE apart"
  case tba => exact True.intro
  case nba => exact rfl
  case cla => exact rfl
  case ka =>
   intro fa9 ca9 oca9 vsa9 ta9 cta9 psa9 Ga9 tla9 ha9 tka9 Fa9 Na9 Aa9 la9 ina9 hZa9 gra9 iga9 da9 qa9 hla9
   simp only [List.cons_append, List.nil_append] at Na9 Aa9 la9
   obtain ⟨hSa9, hKa9⟩ := hZa9
   k_lt la9
   (try k_sweep)
   (repeat ((fail_if_success (with_reducible show wpAny _ _ (call (Value.ref 256) _) _ _ _)); first | (k_unfold; (try dsimp only)) | walk1 | (dsimp only; walk1) | (leave1; walk_say "STEP leave1"; (try dsimp only))))
   walk_at "MINE enterT"
   (repeat ((fail_if_success (with_reducible show wpAny _ _ (call (Value.ref fa9) _) _ _ _)); first | (k_unfold; (try dsimp only)) | walk1 | (dsimp only; walk1) | (leave1; walk_say "STEP leave1"; (try dsimp only))))
   kn_here
   refine wpAny_call ?_
   k_dflt (refine' kla_code ?k1a ?k2a ?k3a ?k4a ?k5a ?kAa ?kFa ?kKa ?k6a ?k7a ?k8a ?k9a ?kBa ?_ ?c2a ?c3a ?c4a ?c5a)
   case kAa => exact rfl
   case kFa => exact rfl
   case kKa => exact rfl
   case k1a => k_asm
   case k2a => k_asm
   case k3a => k_asm
   case k4a => k_asm
   case k5a => k_asm
   case k6a => k_mem
   case k7a => exact codeRec_news (by k_asm) (by (repeat (first | exact ina9 | refine List.Mem.tail _ ?_))) da9 qa9
   case k8a => k_room
   case k9a => exact rfl
   case c5a => decide
   case kBa => exact locs rfl
   case c2a => exact rfl
   case c3a => exact rfl
   case c4a => exact rfl
   intro ga8 La8 ha8 FGa8 Fa8 Na8 Ba8 Xa8 Ta8
   (try dsimp only)
   (try k_lift Ba8)
   (try k_fold)
   (repeat ((fail_if_success (with_reducible show wpAny _ _ (call (Value.ref 263) _) _ _ _)); first | (k_unfold; (try dsimp only)) | walk1 | (dsimp only; walk1) | (leave1; walk_say "STEP leave1"; (try dsimp only))))
   walk1
   (repeat ((fail_if_success (with_reducible show wpAny _ _ (noteFrame _ _) _ _ _)); first | (k_unfold; (try dsimp only)) | walk1 | (dsimp only; walk1) | (leave1; walk_say "STEP leave1"; (try dsimp only))))
   k_dflt (refine' caught_E ?Rp ?Fp ?Kp ?Up ?XBp ?TBp ?exp ?qp ?kp)
   case Rp => assumption
   case Fp => assumption
   case Kp => assumption
   case Up => assumption
   case XBp => assumption
   case TBp => assumption
   case exp => k_is
   case qp => kts_isx
   case kp =>
    intro h5 g5 tk5 oe5 T5 F5 N5 c5 dd5 fs5 B5 X5 P5
    (repeat ((fail_if_success (with_reducible show wpAny _ _ (getAttr _ _ _) _ _ _)); first | (k_unfold; (try dsimp only)) | walk1 | (dsimp only; walk1) | (leave1; walk_say "STEP leave1"; (try dsimp only))))
    k_here
    k_dflt (refine' getE_own ?F2p ?X2p ?I2p ?hgap ?hghp ?hbp ?hhp ?hap ?hnp ?hlp ?hvp ?_)
    case I2p => exact instFlown N5 (.head _) (.tail _ (.head _)) c5 dd5 fs5
    case F2p => k_asm
    case X2p => k_asm
    case hgap => k_is
    case hghp => k_is
    case hbp => k_is
    case hhp => k_is
    case hap => k_is
    case hnp => k_is
    case hlp => k_get
    case hvp => k_handed
    (repeat ((fail_if_success (with_reducible show LeaveT _ _ _ _ _ _ _ _ _ _ _)); first | (k_unfold; (try dsimp only)) | walk1 | (dsimp only; walk1) | (leave1; walk_say "STEP leave1"; (try dsimp only))))
    k_dflt (refine' LeaveT.of1 ?T3p ?F3p ?N3p ?k3p)
    case F3p => k_asm
    case N3p => k_asm
    case T3p => first | with_reducible assumption | assumption | exact KtsTurn.refl | fail "mine"
    case k3p =>
     intro kg kTp kF kN kB
     replace kN := news_drop3 kN
     have kX := XB.keeps kB.stays
     have kP := TB.keeps kB.stays
     (try dsimp only)
     (repeat ((fail_if_success (with_reducible show wpAny _ _ (eval (Expr.Lambda _ _ _ _) _) _ _ _)); first | (k_unfold; (try dsimp only)) | walk1 | (dsimp only; walk1) | (leave1; walk_say "STEP leave1"; (try dsimp only))))
     k_dflt (refine' kla_eval ?db ?_)
     case db => exact rfl
     k_dflt (refine' lam_step (Z := fun G9 t9 => ScnF prog w pg gl (G9 ++ fr) z st t9 ∧ Apart G9 fr) ?Fb ?Nb ?Tb ?Cb ?cdb ?pub ?cub ?hPb ?hPtb ?hAb ⟨hSa9, hKa9⟩ hSa9.inG hla9 (fun C9 => ScnL.beside) ?tbb ?nbb ?clb ?kb)
     case Fb => k_asm
     case Nb => k_asm
     case Tb => k_asm
     case Cb => kn_code
     case cdb => exact rfl
     case pub => walk_at "MINE pull"
     case cub => walk_at "MINE cut"
     case hPb => walk_at "MINE nesr"
     case hPtb => k_all
     case hAb => walk_at "MINE apart"
     case tbb => exact True.intro
     case nbb => exact rfl
     case clb => exact rfl
     case kb =>
      intro fb9 cb9 ocb9 vsb9 tb9 ctb9 psb9 Gb9 tlb9 hb9 tkb9 Fb9 Nb9 Ab9 lb9 inb9 hZb9 grb9 igb9 db9 qb9 hlb9
      simp only [List.cons_append, List.nil_append] at Nb9 Ab9 lb9
      obtain ⟨hSb9, hKb9⟩ := hZb9
      k_lt lb9
      (try k_sweep)
      (repeat ((fail_if_success (with_reducible show wpAny _ _ (call (Value.ref 256) _) _ _ _)); first | (k_unfold; (try dsimp only)) | walk1 | (dsimp only; walk1) | (leave1; walk_say "STEP leave1"; (try dsimp only))))
      walk_at "MINE enterT"
      (repeat ((fail_if_success (with_reducible show wpAny _ _ (call (Value.ref fb9) _) _ _ _)); first | (k_unfold; (try dsimp only)) | walk1 | (dsimp only; walk1) | (leave1; walk_say "STEP leave1"; (try dsimp only))))
      kn_here
      refine wpAny_call ?_
      k_dflt (refine' kla_code ?k1b ?k2b ?k3b ?k4b ?k5b ?kAb ?kFb ?kKb ?k6b ?k7b ?k8b ?k9b ?kBb ?_ ?c2b ?c3b ?c4b ?c5b)
      case kAb => exact rfl
      case kFb => exact rfl
      case kKb => exact rfl
      case k1b => k_asm
      case k2b => k_asm
      case k3b => k_asm
      case k4b => k_asm
      case k5b => k_asm
      case k6b => k_mem
      case k7b => exact codeRec_news (by k_asm) (by (repeat (first | exact inb9 | refine List.Mem.tail _ ?_))) db9 qb9
      case k8b => k_room
      case k9b => exact rfl
      case c5b => decide
      case kBb => exact locs rfl
      case c2b => exact rfl
      case c3b => exact rfl
      case c4b => exact rfl
      intro gb8 Lb8 hb8 FGb8 Fb8 Nb8 Bb8 Xb8 Tb8
      (try dsimp only)
      (try k_lift Bb8)
      (try k_fold)
      (repeat ((fail_if_success (with_reducible show wpAny _ _ (call (Value.ref 270) _) _ _ _)); first | (k_unfold; (try dsimp only)) | walk1 | (dsimp only; walk1) | (leave1; walk_say "STEP leave1"; (try dsimp only))))
      walk1
      (repeat ((fail_if_success (with_reducible show wpAny _ _ (noteFrame _ _) _ _ _)); first | (k_unfold; (try dsimp only)) | walk1 | (dsimp only; walk1) | (leave1; walk_say "STEP leave1"; (try dsimp only))))
      k_dflt (refine' caught_E ?Rq ?Fq ?Kq ?Uq ?XBq ?TBq ?exq ?qq ?kq)
      case Rq => assumption
      case Fq => assumption
      case Kq => assumption
      case Uq => assumption
      case XBq => assumption
      case TBq => assumption
      case exq => k_is
      case qq => kts_isx
      case kq =>
       intro h5 g5 tk5 oe5 T5 F5 N5 c5 dd5 fs5 B5 X5 P5
       (repeat ((fail_if_success (with_reducible show wpAny _ _ (getAttr _ _ _) _ _ _)); first | (k_unfold; (try dsimp only)) | walk1 | (dsimp only; walk1) | (leave1; walk_say "STEP leave1"; (try dsimp only))))
       k_here
       k_dflt (refine' getE_own ?F2q ?X2q ?I2q ?hgaq ?hghq ?hbq ?hhq ?haq ?hnq ?hlq ?hvq ?_)
       case I2q => exact instFlown N5 (.head _) (.tail _ (.head _)) c5 dd5 fs5
       case F2q => k_asm
       case X2q => k_asm
       case hgaq => k_is
       case hghq => k_is
       case hbq => k_is
       case hhq => k_is
       case haq => k_is
       case hnq => k_is
       case hlq => k_get
       case hvq => k_handed
       (repeat ((fail_if_success (with_reducible show LeaveT _ _ _ _ _ _ _ _ _ _ _)); first | (k_unfold; (try dsimp only)) | walk1 | (dsimp only; walk1) | (leave1; walk_say "STEP leave1"; (try dsimp only))))
       k_dflt (refine' LeaveT.of1 ?T3q ?F3q ?N3q ?k3q)
       case F3q => k_asm
       case N3q => k_asm
       case T3q => first | with_reducible assumption | assumption | exact KtsTurn.refl | fail "mine"
       case k3q =>
        intro kg kTq kF kN kB
        replace kN := news_drop3 kN
        have kX := XB.keeps kB.stays
        have kP := TB.keeps kB.stays
        (try dsimp only)
        (repeat ((fail_if_success (with_reducible show LeaveT _ _ _ _ _ _ _ _ _ _ _)); first | (k_unfold; (try dsimp only)) | walk1 | (dsimp only; walk1) | (leave1; walk_say "STEP leave1"; (try dsimp only))))
        k_dflt (refine' LeaveT.of1 ?T4 ?F4 ?N4 ?k4)
        case F4 => k_asm
        case N4 => k_asm
        case T4 => exact kTp.trans kTq
        case k4 =>
         intro kg kT kF kN kB
         rw [hout] at kT
         refine' ret _ _ _ _ _ ?F5 (news_sub ?N5 ?s5) ?S5 hKb9 (LamOk.two grb9 iga9 da9 qa9 igb9 db9 qb9 hlb9) ?a5 ?b5 ?c5
         case F5 => exact fr_turn0 kT kF
         case N5 => exact news_turn0 kT kN
         case s5 => walk_at "MINE sub"
         case S5 => exact hSb9
         case a5 => k_all
         case b5 => k_all
         case c5 => k_all
theorem deed_b_a : ∀ x, deed_b_P x := pk_all e_53 deed_b_c
theorem e_54 : cc = k_54 := pk_next e_53 deed_b_a
theorem deed_b {prog w p loose mean mg mb dp un gd cn cs a ccd cl outer A₀ base h₀ L m s Q E tl sd al pg gl tg ta tm tw t1 t2 t3 na z as g k many word tx st osd K fr ps} : deed_b_S prog w p loose mean mg mb dp un gd cn cs a ccd cl outer A₀ base h₀ L m s Q E tl sd al pg gl tg ta tm tw t1 t2 t3 na z as g k many word tx st osd K fr ps :=
  deed_b_a (prog, w, p, loose, mean, mg, mb, dp, un, gd, cn, cs, a, ccd, cl, outer, A₀, base, h₀, L, m, s, Q, E, tl, tg, t1, t2, g, k, c_wl, many, pg, sd, ta, t3, osd, tm, tw, c_t4, c_t5, c_al, gl, c_n, c_vs, c_x, c_xd, c_q, c_pd, c_hl, c_dc, c_t6, c_nt, c_n1, c_n3, c_cnt, c_hs, c_ws, c_held, c_rows, c_oc, c_TT, z, fr, st, word, c_pl, c_tc, c_c, c_gl_, c_ng, c_gs, c_pv, c_to, c_o, c_b, c_out, tx, c_G, al, na, as, c_st', c_asl, c_st2, c_D, c_l, c_pre, c_post, c_qs, c_tr, c_asl1, c_st1, K, ps, cc.2.2.2.2.2.2.2.2.2.2.2.2.2.2.2.2.2.2.2.2.2.2.2.2.2.2.2.2.2.2.2.2.2.2.2.2.2.2.2.2.2.2.2.2.2.2.2.2.2.2.2.2.2.2.2.2.2.2.2.2.2.2.2.2.2.2.2.2.2.2.2.2.2.2.2.2.2.2.2.2.2.2.2.2.2.2.2.2.2.2.2.2.2.2.2)
end
-- DK
section
theorem deed_stepT_c : deed_stepT_S c_prog c_w c_p c_loose c_mean c_mg c_mb c_dp c_un c_gd c_cn c_cs c_a c_ccd c_cl c_outer c_A₀ c_base c_h₀ c_L c_m c_s c_Q c_E c_sd c_al_ c_pg c_gl c_tg c_ta c_tm c_tw c_t1 c_t2 c_t3 c_na c_z c_as c_asl c_asl1 c_g c_k c_many c_word c_b c_out c_st c_st1 c_st2 c_osd c_fr c_D := by
  refine' (?g : ∀ prog w p loose mean mg mb dp un gd cn cs a ccd cl outer A₀ base h₀ L m s Q E sd al pg gl tg ta tm tw t1 t2 t3 na z as asl asl1 g k many word b out st st1 st2 osd fr D, deed_stepT_S prog w p loose mean mg mb dp un gd cn cs a ccd cl outer A₀ base h₀ L m s Q E sd al pg gl tg ta tm tw t1 t2 t3 na z as asl asl1 g k many word b out st st1 st2 osd fr D) c_prog c_w c_p c_loose c_mean c_mg c_mb c_dp c_un c_gd c_cn c_cs c_a c_ccd c_cl c_outer c_A₀ c_base c_h₀ c_L c_m c_s c_Q c_E c_sd c_al_ c_pg c_gl c_tg c_ta c_tm c_tw c_t1 c_t2 c_t3 c_na c_z c_as c_asl c_asl1 c_g c_k c_many c_word c_b c_out c_st c_st1 c_st2 c_osd c_fr c_D
  intros prog w p loose mean mg mb dp un gd cn cs a ccd cl outer A₀ base h₀ L m s Q E sd al pg gl tg ta tm tw t1 t2 t3 na z as asl asl1 g k many word b out st st1 st2 osd fr D
  intros B F X T hk N hsd hD hA hsf haf hI hz hras hT hCH hdp hun ret
  have hal : as.length ≤ 190 := by
    have := hras.length_eq (h := default) (fun _ h => nomatch h)
    have := hI.alen
    simp only [List.length_map] at *
    omega
  obtain ⟨ps, K, tl, rfl, hS, hKt, hl, nd, sp⟩ := hD
  have hKf : Apart K fr := fun p hp q hq e => hA q hq p (.tail _ (List.mem_append_left _ hp)) e.symm
  have hSF : ScnF prog w pg gl (K ++ fr) z st ((K ++ fr) ++ tl) := ⟨tl, rfl, hS, fun p hp q hq => (List.mem_append.mp hp).elim (fun h => hKt p h q hq) fun h => hA p h q (.tail _ (List.mem_append_right _ hq))⟩
  have e1 := dst_sep (fr := fr) (apart_ne hA (.head _)) (sp 277 (.head _))
  have e2 := dst_sep hsf (sp sd (.tail _ (.head _)))
  have e3 := dst_sep haf (sp al (.tail _ (.tail _ (.head _))))
  refine deed_f (as := as) (na := na) (asl := asl) (asl1 := asl1) (b := b) (out := out) (st1 := st1) (st2 := st2) B F X T hk (dst_news N) hsd hSF hKf hl hI.small hT.s1 hT.inv.small (by omega) hz hT.q hT.p hT.inv.m hras hal hT.t hT.f hT.rem nd e1 e2 e3 hCH hdp hun ?_
  intro h' tk' tl' vs' na' ps' K' F' N' S' hK' hl' R' b1 b2 b3
  obtain ⟨tl2, rfl, S2, A2⟩ := S'
  obtain ⟨r1, r2⟩ := dst_back N' S2 A2 hK' hl' nd b1 b2 b3
  exact ret h' tk' _ vs' na' F' r1 r2 R' (dst_apart A2 hK' b1)
theorem deed_stepT_a : ∀ x, deed_stepT_P x := pk_all e_54 deed_stepT_c
theorem e_55 : cc = k_55 := pk_next e_54 deed_stepT_a
theorem deed_stepT {prog w p loose mean mg mb dp un gd cn cs a ccd cl outer A₀ base h₀ L m s Q E sd al pg gl tg ta tm tw t1 t2 t3 na z as asl asl1 g k many word b out st st1 st2 osd fr D} : deed_stepT_S prog w p loose mean mg mb dp un gd cn cs a ccd cl outer A₀ base h₀ L m s Q E sd al pg gl tg ta tm tw t1 t2 t3 na z as asl asl1 g k many word b out st st1 st2 osd fr D :=
  deed_stepT_a (prog, w, p, loose, mean, mg, mb, dp, un, gd, cn, cs, a, ccd, cl, outer, A₀, base, h₀, L, m, s, Q, E, c_tl, tg, t1, t2, g, k, c_wl, many, pg, sd, ta, t3, osd, tm, tw, c_t4, c_t5, c_al, gl, c_n, c_vs, c_x, c_xd, c_q, c_pd, c_hl, c_dc, c_t6, c_nt, c_n1, c_n3, c_cnt, c_hs, c_ws, c_held, c_rows, c_oc, c_TT, z, fr, st, word, c_pl, c_tc, c_c, c_gl_, c_ng, c_gs, c_pv, c_to, c_o, b, out, c_tx, c_G, al, na, as, c_st', asl, st2, D, c_l, c_pre, c_post, c_qs, c_tr, asl1, st1, cc.2.2.2.2.2.2.2.2.2.2.2.2.2.2.2.2.2.2.2.2.2.2.2.2.2.2.2.2.2.2.2.2.2.2.2.2.2.2.2.2.2.2.2.2.2.2.2.2.2.2.2.2.2.2.2.2.2.2.2.2.2.2.2.2.2.2.2.2.2.2.2.2.2.2.2.2.2.2.2.2.2.2.2.2.2.2.2.2.2.2.2.2.2)
theorem deed_stepB_c : deed_stepB_S c_prog c_w c_p c_loose c_mean c_mg c_mb c_dp c_un c_gd c_cn c_cs c_a c_ccd c_cl c_outer c_A₀ c_base c_h₀ c_L c_m c_s c_Q c_E c_sd c_al_ c_pg c_gl c_tg c_ta c_tm c_tw c_t1 c_t2 c_t3 c_na c_z c_as c_asl c_g c_k c_many c_word c_st c_osd c_fr c_D c_tx := by
  refine' (?g : ∀ prog w p loose mean mg mb dp un gd cn cs a ccd cl outer A₀ base h₀ L m s Q E sd al pg gl tg ta tm tw t1 t2 t3 na z as asl g k many word st osd fr D tx, deed_stepB_S prog w p loose mean mg mb dp un gd cn cs a ccd cl outer A₀ base h₀ L m s Q E sd al pg gl tg ta tm tw t1 t2 t3 na z as asl g k many word st osd fr D tx) c_prog c_w c_p c_loose c_mean c_mg c_mb c_dp c_un c_gd c_cn c_cs c_a c_ccd c_cl c_outer c_A₀ c_base c_h₀ c_L c_m c_s c_Q c_E c_sd c_al_ c_pg c_gl c_tg c_ta c_tm c_tw c_t1 c_t2 c_t3 c_na c_z c_as c_asl c_g c_k c_many c_word c_st c_osd c_fr c_D c_tx
  intros prog w p loose mean mg mb dp un gd cn cs a ccd cl outer A₀ base h₀ L m s Q E sd al pg gl tg ta tm tw t1 t2 t3 na z as asl g k many word st osd fr D tx
  intros B F X T hk N hsd hD hA hsf haf hI hz hras h1 h2 XB TB hout hCH hdp hun ret
  obtain ⟨ps, K, tl, rfl, hS, hKt, hl, nd, sp⟩ := hD
  have hKf : Apart K fr := fun p hp q hq e => hA q hq p (.tail _ (List.mem_append_left _ hp)) e.symm
  have hSF : ScnF prog w pg gl (K ++ fr) z st ((K ++ fr) ++ tl) := ⟨tl, rfl, hS, fun p hp q hq => (List.mem_append.mp hp).elim (fun h => hKt p h q hq) fun h => hA p h q (.tail _ (List.mem_append_right _ hq))⟩
  have e1 := dst_sep (fr := fr) (apart_ne hA (.head _)) (sp 277 (.head _))
  have e2 := dst_sep hsf (sp sd (.tail _ (.head _)))
  have e3 := dst_sep haf (sp al (.tail _ (.tail _ (.head _))))
  refine deed_b (as := as) (na := na) (tx := tx) B F X T hk (dst_news N) hsd hSF hKf hl hI.small (by omega) h1 h2 hI.m nd e1 e2 e3 hCH XB TB hout hdp hun ?_
  intro h' tk' tl' ps' K' F' N' S' hK' hl' b1 b2 b3
  obtain ⟨tl2, rfl, S2, A2⟩ := S'
  obtain ⟨r1, r2⟩ := dst_back N' S2 A2 hK' hl' nd b1 b2 b3
  exact ret h' tk' _ F' r1 r2 (dst_apart A2 hK' b1)
theorem deed_stepB_a : ∀ x, deed_stepB_P x := pk_all e_55 deed_stepB_c
theorem e_56 : cc = k_56 := pk_next e_55 deed_stepB_a
theorem deed_stepB {prog w p loose mean mg mb dp un gd cn cs a ccd cl outer A₀ base h₀ L m s Q E sd al pg gl tg ta tm tw t1 t2 t3 na z as asl g k many word st osd fr D tx} : deed_stepB_S prog w p loose mean mg mb dp un gd cn cs a ccd cl outer A₀ base h₀ L m s Q E sd al pg gl tg ta tm tw t1 t2 t3 na z as asl g k many word st osd fr D tx :=
  deed_stepB_a (prog, w, p, loose, mean, mg, mb, dp, un, gd, cn, cs, a, ccd, cl, outer, A₀, base, h₀, L, m, s, Q, E, c_tl, tg, t1, t2, g, k, c_wl, many, pg, sd, ta, t3, osd, tm, tw, c_t4, c_t5, c_al, gl, c_n, c_vs, c_x, c_xd, c_q, c_pd, c_hl, c_dc, c_t6, c_nt, c_n1, c_n3, c_cnt, c_hs, c_ws, c_held, c_rows, c_oc, c_TT, z, fr, st, word, c_pl, c_tc, c_c, c_gl_, c_ng, c_gs, c_pv, c_to, c_o, c_b, c_out, tx, c_G, al, na, as, c_st', asl, c_st2, D, cc.2.2.2.2.2.2.2.2.2.2.2.2.2.2.2.2.2.2.2.2.2.2.2.2.2.2.2.2.2.2.2.2.2.2.2.2.2.2.2.2.2.2.2.2.2.2.2.2.2.2.2.2.2.2.2.2.2.2.2.2.2.2.2.2.2.2.2.2.2.2.2.2.2.2.2.2.2.2.2.2.2.2.2.2.2.2)
theorem deed_step_c : deed_step_S c_prog c_w c_p c_loose c_mean c_mg c_mb c_dp c_un c_gd c_cn c_cs c_a c_ccd c_cl c_outer c_A₀ c_base c_h₀ c_L c_m c_s c_Q c_E c_sd c_al_ c_pg c_gl c_tg c_ta c_tm c_tw c_t1 c_t2 c_t3 c_na c_z c_as c_asl c_g c_k c_many c_word c_st c_st2 c_osd c_fr c_D := by
  refine' (?g : ∀ prog w p loose mean mg mb dp un gd cn cs a ccd cl outer A₀ base h₀ L m s Q E sd al pg gl tg ta tm tw t1 t2 t3 na z as asl g k many word st st2 osd fr D, deed_step_S prog w p loose mean mg mb dp un gd cn cs a ccd cl outer A₀ base h₀ L m s Q E sd al pg gl tg ta tm tw t1 t2 t3 na z as asl g k many word st st2 osd fr D) c_prog c_w c_p c_loose c_mean c_mg c_mb c_dp c_un c_gd c_cn c_cs c_a c_ccd c_cl c_outer c_A₀ c_base c_h₀ c_L c_m c_s c_Q c_E c_sd c_al_ c_pg c_gl c_tg c_ta c_tm c_tw c_t1 c_t2 c_t3 c_na c_z c_as c_asl c_g c_k c_many c_word c_st c_st2 c_osd c_fr c_D
  intros prog w p loose mean mg mb dp un gd cn cs a ccd cl outer A₀ base h₀ L m s Q E sd al pg gl tg ta tm tw t1 t2 t3 na z as asl g k many word st st2 osd fr D
  intros B F X T hk N hsd hD hA hsf haf hI hz hras hg hW XB TB hout hCH hdp hun ret
  rcases deed_sem (many := many) hI hg hW with ⟨b, out, st1, st2, asl1, hT⟩ | ⟨tx, h1, h2⟩
  · exact deed_stepT B F X T hk N hsd hD hA hsf haf hI hz hras hT hCH hdp hun fun h' tk' D' as' na' F' N' D2 R' A' => ret h' tk' D' as' na' _ _ F' N' D2 R' A' hT.inv
  · exact deed_stepB B F X T hk N hsd hD hA hsf haf hI hz hras h1 h2 XB TB hout hCH hdp hun fun h' tk' D' F' N' D2 A' => ret h' tk' D' as na st asl F' N' (D2.le (Nat.le_succ z)) hras A' hI.le
theorem deed_step_a : ∀ x, deed_step_P x := pk_all e_56 deed_step_c
theorem e_57 : cc = k_57 := pk_next e_56 deed_step_a
theorem deed_step {prog w p loose mean mg mb dp un gd cn cs a ccd cl outer A₀ base h₀ L m s Q E sd al pg gl tg ta tm tw t1 t2 t3 na z as asl g k many word st st2 osd fr D} : deed_step_S prog w p loose mean mg mb dp un gd cn cs a ccd cl outer A₀ base h₀ L m s Q E sd al pg gl tg ta tm tw t1 t2 t3 na z as asl g k many word st st2 osd fr D :=
  deed_step_a (prog, w, p, loose, mean, mg, mb, dp, un, gd, cn, cs, a, ccd, cl, outer, A₀, base, h₀, L, m, s, Q, E, c_tl, tg, t1, t2, g, k, c_wl, many, pg, sd, ta, t3, osd, tm, tw, c_t4, c_t5, c_al, gl, c_n, c_vs, c_x, c_xd, c_q, c_pd, c_hl, c_dc, c_t6, c_nt, c_n1, c_n3, c_cnt, c_hs, c_ws, c_held, c_rows, c_oc, c_TT, z, fr, st, word, c_pl, c_tc, c_c, c_gl_, c_ng, c_gs, c_pv, c_to, c_o, c_b, c_out, c_tx, c_G, al, na, as, c_st', asl, st2, D, cc.2.2.2.2.2.2.2.2.2.2.2.2.2.2.2.2.2.2.2.2.2.2.2.2.2.2.2.2.2.2.2.2.2.2.2.2.2.2.2.2.2.2.2.2.2.2.2.2.2.2.2.2.2.2.2.2.2.2.2.2.2.2.2.2.2.2.2.2.2.2.2.2.2.2.2.2.2.2.2.2.2.2.2.2.2.2)
end
-- EC
section
theorem pool_c_c : pool_c_S c_prog c_w c_p c_loose c_mean c_mg c_mb c_dp c_un c_gd c_cn c_cs c_a c_ccd c_cl c_outer c_A₀ c_base c_h₀ c_L c_m c_s c_Q c_E c_tl c_l c_vs c_xs c_tz := by
  refine' (?g : ∀ prog w p loose mean mg mb dp un gd cn cs a ccd cl outer A₀ base h₀ L m s Q E tl l vs xs tz, pool_c_S prog w p loose mean mg mb dp un gd cn cs a ccd cl outer A₀ base h₀ L m s Q E tl l vs xs tz) c_prog c_w c_p c_loose c_mean c_mg c_mb c_dp c_un c_gd c_cn c_cs c_a c_ccd c_cl c_outer c_A₀ c_base c_h₀ c_L c_m c_s c_Q c_E c_tl c_l c_vs c_xs c_tz
  intros prog w p loose mean mg mb dp un gd cn cs a ccd cl outer A₀ base h₀ L m s Q E tl l vs xs tz
  intros B F X T hk N hl hx hlen hdp hun ret
  walk_at "MINE enter"
  (with_reducible rename Below _ _ (_ :: _) _ => kB9)
  have hl2 := stays_list (Below.stays kB9) hl
  k_steps
  all_goals (refine ret _ _ _ _ _ _ _ (by k_asm) (by k_asm) (by k_all) (prod_nn (max_nn _) (ite_nn _)) (fm_lo _ (by decide)) (fm_hi _ (by decide)))
theorem pool_c_a : ∀ x, pool_c_P x := pk_all e_57 pool_c_c
theorem e_58 : cc = k_58 := pk_next e_57 pool_c_a
theorem pool_c {prog w p loose mean mg mb dp un gd cn cs a ccd cl outer A₀ base h₀ L m s Q E tl l vs xs tz} : pool_c_S prog w p loose mean mg mb dp un gd cn cs a ccd cl outer A₀ base h₀ L m s Q E tl l vs xs tz :=
  pool_c_a (prog, w, p, loose, mean, mg, mb, dp, un, gd, cn, cs, a, ccd, cl, outer, A₀, base, h₀, L, m, s, Q, E, tl, c_tg, c_t1, c_t2, c_g, c_k, c_wl, c_many, c_pg, c_sd, c_ta, c_t3, c_osd, c_tm, c_tw, c_t4, c_t5, c_al, c_gl, c_n, vs, c_x, c_xd, c_q, c_pd, c_hl, c_dc, c_t6, c_nt, c_n1, c_n3, c_cnt, c_hs, c_ws, c_held, c_rows, c_oc, c_TT, c_z, c_fr, c_st, c_word, c_pl, c_tc, c_c, c_gl_, c_ng, c_gs, c_pv, c_to, c_o, c_b, c_out, c_tx, c_G, c_al_, c_na, c_as, c_st', c_asl, c_st2, c_D, l, c_pre, c_post, c_qs, c_tr, c_asl1, c_st1, c_K, c_ps, c_i, c_j, c_tb, c_r, c_us, c_q_, c_r0, c_us0, xs, tz, cc.2.2.2.2.2.2.2.2.2.2.2.2.2.2.2.2.2.2.2.2.2.2.2.2.2.2.2.2.2.2.2.2.2.2.2.2.2.2.2.2.2.2.2.2.2.2.2.2.2.2.2.2.2.2.2.2.2.2.2.2.2.2.2.2.2.2.2.2.2.2.2.2.2.2.2.2.2.2.2.2.2.2.2.2.2.2.2.2.2.2.2.2.2.2.2.2.2.2.2.2.2.2.2.2.2)
theorem take_c_c : take_c_S c_prog c_w c_p c_loose c_mean c_mg c_mb c_dp c_un c_gd c_cn c_cs c_a c_ccd c_cl c_outer c_A₀ c_base c_h₀ c_L c_m c_s c_Q c_E c_tl c_l c_n c_i c_j c_top c_ta c_tb c_tt := by
  refine' (?g : ∀ prog w p loose mean mg mb dp un gd cn cs a ccd cl outer A₀ base h₀ L m s Q E tl l n i j top ta tb tt, take_c_S prog w p loose mean mg mb dp un gd cn cs a ccd cl outer A₀ base h₀ L m s Q E tl l n i j top ta tb tt) c_prog c_w c_p c_loose c_mean c_mg c_mb c_dp c_un c_gd c_cn c_cs c_a c_ccd c_cl c_outer c_A₀ c_base c_h₀ c_L c_m c_s c_Q c_E c_tl c_l c_n c_i c_j c_top c_ta c_tb c_tt
  intros prog w p loose mean mg mb dp un gd cn cs a ccd cl outer A₀ base h₀ L m s Q E tl l n i j top ta tb tt
  intros B F X T hk N hs htop htop2 hi hj hj2 hdp hun ret
  walk_at "MINE enter"
  k_steps
  · exact ret _ _ _ _ _ _ _ _ (by k_asm) (by k_asm) (fm_lo _ htop) (fm_hi _ htop) (fdiv_nn hi htop) hj hj2
  · exact ret _ _ _ _ _ _ _ _ (by k_asm) (by k_asm) (fm_lo _ htop) (fm_hi _ htop) hi (fm_lo _ (by decide)) (fm_hi _ (by decide))
theorem take_c_a : ∀ x, take_c_P x := pk_all e_58 take_c_c
theorem e_59 : cc = k_59 := pk_next e_58 take_c_a
theorem take_c {prog w p loose mean mg mb dp un gd cn cs a ccd cl outer A₀ base h₀ L m s Q E tl l n i j top ta tb tt} : take_c_S prog w p loose mean mg mb dp un gd cn cs a ccd cl outer A₀ base h₀ L m s Q E tl l n i j top ta tb tt :=
  take_c_a (prog, w, p, loose, mean, mg, mb, dp, un, gd, cn, cs, a, ccd, cl, outer, A₀, base, h₀, L, m, s, Q, E, tl, c_tg, c_t1, c_t2, c_g, c_k, c_wl, c_many, c_pg, c_sd, ta, c_t3, c_osd, c_tm, c_tw, c_t4, c_t5, c_al, c_gl, n, c_vs, c_x, c_xd, c_q, c_pd, c_hl, c_dc, c_t6, c_nt, c_n1, c_n3, c_cnt, c_hs, c_ws, c_held, c_rows, c_oc, c_TT, c_z, c_fr, c_st, c_word, c_pl, c_tc, c_c, c_gl_, c_ng, c_gs, c_pv, c_to, c_o, c_b, c_out, c_tx, c_G, c_al_, c_na, c_as, c_st', c_asl, c_st2, c_D, l, c_pre, c_post, c_qs, c_tr, c_asl1, c_st1, c_K, c_ps, i, j, tb, c_r, c_us, c_q_, c_r0, c_us0, c_xs, c_tz, top, tt, cc.2.2.2.2.2.2.2.2.2.2.2.2.2.2.2.2.2.2.2.2.2.2.2.2.2.2.2.2.2.2.2.2.2.2.2.2.2.2.2.2.2.2.2.2.2.2.2.2.2.2.2.2.2.2.2.2.2.2.2.2.2.2.2.2.2.2.2.2.2.2.2.2.2.2.2.2.2.2.2.2.2.2.2.2.2.2.2.2.2.2.2.2.2.2.2.2.2.2.2.2.2.2.2.2.2.2.2)
local macro_rules | `(tactic| walk_at $k:str) => mtRun [
  ("MINE offs", "F4 Kk_all E @1 aList.forall_mem_nil _ S3 R @1 aList.forall_mem_cons.mpr <2 ?a ?b C a Kk_ne C b WMINE~offs X"),
  ("call builtin:len", "S3 Kk_here H O @6 awpAny _ _ ( @2 acall ( @1 aValue.builtin $len [1 @1 aValue.ref _ _ _ _ D S5 R @4 alen_led ?N ?m ?z ?_ C N Kk_asm C m Kk_mem C z H Kassumption Kk_whole"),
  ("call ref", "S4 Kk_here D F2 S17 R @15 atake_c ?B ?F ?X ?T ?hk ( @2 anews_sub ?N ( @1 aPull.sub ?pu ?hs ?h1 ?h2 ?h3 ?h4 ?h5 ?dp ?un ?_ C B Kk_asm C F Kk_asm C X Kk_asm C T Kk_asm C hk E arfl C N Kk_asm C pu WMINE~pull C hs WMINE~offs C h3 H Kassumption C h4 H Kassumption C h5 H Kassumption C h1 F3 H Kassumption Kdecide X C h2 F3 H Kassumption Kdecide X C dp S2 T d2 ktrTop Around.deeper 0 Komega C un S2 T d2 ktrTop Around.deeper 0 Komega Kk_whole X I15 h' tk' k9 u9 i9 j9 ta9 tb9 F' N' k90 k91 i90 j90 j91 T Kk_sweep")] k.getString
theorem one_c_c : one_c_S c_prog c_w c_p c_loose c_mean c_mg c_mb c_dp c_un c_gd c_cn c_cs c_a c_ccd c_cl c_outer c_A₀ c_base c_h₀ c_L c_m c_s c_Q c_E c_tl c_l c_t c_n c_n2 c_i c_j c_ta c_tb c_vs := by
  refine' (?g : ∀ prog w p loose mean mg mb dp un gd cn cs a ccd cl outer A₀ base h₀ L m s Q E tl l t n n2 i j ta tb vs, one_c_S prog w p loose mean mg mb dp un gd cn cs a ccd cl outer A₀ base h₀ L m s Q E tl l t n n2 i j ta tb vs) c_prog c_w c_p c_loose c_mean c_mg c_mb c_dp c_un c_gd c_cn c_cs c_a c_ccd c_cl c_outer c_A₀ c_base c_h₀ c_L c_m c_s c_Q c_E c_tl c_l c_t c_n c_n2 c_i c_j c_ta c_tb c_vs
  intros prog w p loose mean mg mb dp un gd cn cs a ccd cl outer A₀ base h₀ L m s Q E tl l t n n2 i j ta tb vs
  intros B F X T hk N hs hne h0 h1 hi hj hj2 hdp hun ret
  walk_at "MINE enter"
  have hz0 : (0 : Int) < ((vs.length : Nat) : Int) := by omega
  have hz1 : ((vs.length : Nat) : Int) < 1000 := by omega
  k_steps
  obtain ⟨v9, hv9⟩ := at_get (vs := vs) (by assumption) (by assumption)
  k_dflt (refine' item_at ?N ?m ?a ?b hv9 ?_ ?d)
  case N => k_asm
  case m => k_mem
  case a => assumption
  case b => omega
  case d => with_unfolding_all rfl
  k_steps
  exact ret _ _ _ _ _ _ _ _ (by k_asm) (by k_asm) hv9 (by assumption) (by assumption) (by assumption)
theorem one_c_a : ∀ x, one_c_P x := pk_all e_59 one_c_c
theorem e_60 : cc = k_60 := pk_next e_59 one_c_a
theorem one_c {prog w p loose mean mg mb dp un gd cn cs a ccd cl outer A₀ base h₀ L m s Q E tl l t n n2 i j ta tb vs} : one_c_S prog w p loose mean mg mb dp un gd cn cs a ccd cl outer A₀ base h₀ L m s Q E tl l t n n2 i j ta tb vs :=
  one_c_a (prog, w, p, loose, mean, mg, mb, dp, un, gd, cn, cs, a, ccd, cl, outer, A₀, base, h₀, L, m, s, Q, E, tl, c_tg, c_t1, c_t2, c_g, c_k, c_wl, c_many, c_pg, c_sd, ta, c_t3, c_osd, c_tm, c_tw, c_t4, c_t5, c_al, c_gl, n, vs, c_x, c_xd, c_q, c_pd, c_hl, c_dc, c_t6, c_nt, c_n1, c_n3, c_cnt, c_hs, c_ws, c_held, c_rows, c_oc, c_TT, c_z, c_fr, c_st, c_word, c_pl, c_tc, c_c, c_gl_, c_ng, c_gs, c_pv, c_to, c_o, c_b, c_out, c_tx, c_G, c_al_, c_na, c_as, c_st', c_asl, c_st2, c_D, l, c_pre, c_post, c_qs, c_tr, c_asl1, c_st1, c_K, c_ps, i, j, tb, c_r, c_us, c_q_, c_r0, c_us0, c_xs, c_tz, c_top, c_tt, t, n2)
local macro_rules | `(tactic| walk_at $k:str) => mtRun [
  ("MINE apartR", "F3 E aApart.nilR S3 R @2 aApart.consR ?a ?b C a Kk_all C b WMINE~apartR X"),
  ("MINE mems", "F3 S3 I2 q hq P F2 E vhq r @2 aList.Mem.tail _ ?_ Kdone S3 R @1 aList.forall_mem_cons.mpr <2 ?a ?b C a P F2 E @1 aList.Mem.head _ r @2 aList.Mem.tail _ ?_ C b WMINE~mems X")] k.getString
theorem scene_c_c : scene_c_S c_prog c_w c_p c_loose c_mean c_mg c_mb c_dp c_un c_gd c_cn c_cs c_a c_ccd c_cl c_outer c_A₀ c_base c_h₀ c_L c_m c_s c_Q c_E c_tl := by
  refine' (?g : ∀ prog w p loose mean mg mb dp un gd cn cs a ccd cl outer A₀ base h₀ L m s Q E tl, scene_c_S prog w p loose mean mg mb dp un gd cn cs a ccd cl outer A₀ base h₀ L m s Q E tl) c_prog c_w c_p c_loose c_mean c_mg c_mb c_dp c_un c_gd c_cn c_cs c_a c_ccd c_cl c_outer c_A₀ c_base c_h₀ c_L c_m c_s c_Q c_E c_tl
  intros prog w p loose mean mg mb dp un gd cn cs a ccd cl outer A₀ base h₀ L m s Q E tl
  intros B F X T hk N hdp hun ret
  walk_at "MINE enter"
  k_steps
  k_dflt (refine' ret _ _ _ _ _ _ _ _ _ _ _ ?f (news_sub ?n ?s) ?hd (scn_new (t4 := ?q4) (t5 := ?q5) (t6 := ?q6) (u0 := ?q7) (v0 := ?q8) (u1 := ?q9) (v1 := ?q10) (u2 := ?q11) (v2 := ?q12) (u3 := ?q13) (v3 := ?q14) (y2 := ?q15) (y3 := ?q16) ?hs ?lo ?nd) ?a1 ?a2 ?a3 ?a4 ?a5 ?a6)
  case f => k_asm
  case n => k_asm
  case hd => assumption
  case s => (simp only [List.cons_append, List.nil_append]); walk_at "MINE mems"
  case hs => assumption
  case lo => assumption
  case nd => walk_at "MINE nodup"
  case a1 => k_all
  case a2 => k_all
  case a3 => walk_at "MINE apartR"
  case a4 => k_ne
  case a5 => walk_at "MINE nesr"
  case a6 => walk_at "MINE nesr"
theorem scene_c_a : ∀ x, scene_c_P x := pk_all e_60 scene_c_c
theorem e_61 : cc = k_61 := pk_next e_60 scene_c_a
theorem scene_c {prog w p loose mean mg mb dp un gd cn cs a ccd cl outer A₀ base h₀ L m s Q E tl} : scene_c_S prog w p loose mean mg mb dp un gd cn cs a ccd cl outer A₀ base h₀ L m s Q E tl :=
  scene_c_a (prog, w, p, loose, mean, mg, mb, dp, un, gd, cn, cs, a, ccd, cl, outer, A₀, base, h₀, L, m, s, Q, E, tl, cc.2.2.2.2.2.2.2.2.2.2.2.2.2.2.2.2.2.2.2.2.2.2.2.2.2)
end
-- TD
section
local macro_rules | `(tactic| walk_at $k:str) => mtRun [
  ("MINE offs", "F4 Kk_all E @1 aList.forall_mem_nil _ S3 R @1 aList.forall_mem_cons.mpr <2 ?a ?b C a Kk_ne C b WMINE~offs X"),
  ("call builtin:len", "S3 Kk_here H O @6 awpAny _ _ ( @2 acall ( @1 aValue.builtin $len [1 @1 aValue.ref _ _ _ _ D S5 R @4 alen_led ?N ?m ?z ?_ C N Kk_asm C m Kk_mem C z H Kassumption Kk_whole"),
  ("call ref", "S4 Kk_here D F2 S17 R @15 atake_c ?B ?F ?X ?T ?hk ( @2 anews_sub ?N ( @1 aPull.sub ?pu ?hs ?h1 ?h2 ?h3 ?h4 ?h5 ?dp ?un ?_ C B Kk_asm C F Kk_asm C X Kk_asm C T Kk_asm C hk E arfl C N Kk_asm C pu WMINE~pull C hs WMINE~offs C h3 H Kassumption C h4 H Kassumption C h5 H Kassumption C h1 F3 H Kassumption Kdecide X C h2 F3 H Kassumption Kdecide X C dp S2 T d2 ktrTop Around.deeper 0 Komega C un S2 T d2 ktrTop Around.deeper 0 Komega Kk_whole X I15 h' tk' k9 u9 i9 j9 ta9 tb9 F' N' k90 k91 i90 j90 j91 T Kk_sweep")] k.getString
theorem told_c_c : told_c_S c_prog c_w c_p c_loose c_mean c_mg c_mb c_dp c_un c_gd c_cn c_cs c_a c_ccd c_cl c_outer c_A₀ c_base c_h₀ c_L c_m c_s c_Q c_E c_tl := by
  refine' (?g : ∀ prog w p loose mean mg mb dp un gd cn cs a ccd cl outer A₀ base h₀ L m s Q E tl, told_c_S prog w p loose mean mg mb dp un gd cn cs a ccd cl outer A₀ base h₀ L m s Q E tl) c_prog c_w c_p c_loose c_mean c_mg c_mb c_dp c_un c_gd c_cn c_cs c_a c_ccd c_cl c_outer c_A₀ c_base c_h₀ c_L c_m c_s c_Q c_E c_tl
  intros prog w p loose mean mg mb dp un gd cn cs a ccd cl outer A₀ base h₀ L m s Q E tl
  intros B F X T hk N h277 hCH hdp hun ret
  walk_at "MINE enter"
  (repeat ((fail_if_success (with_reducible show wpAny _ _ (call (Value.ref 242) _) _ _ _)); first | (k_unfold; (try dsimp only)) | walk1 | (dsimp only; walk1) | (leave1; walk_say "STEP leave1"; (try dsimp only))))
  k_dflt (refine' scene_c ?B1 ?F1 ?X1 ?T1 ?hk1 ?N1 ?dp1 ?un1 ?k1)
  case B1 => k_asm
  case F1 => k_asm
  case X1 => k_asm
  case T1 => k_asm
  case hk1 => exact rfl
  case N1 => k_asm
  case dp1 => ((try dsimp only [ktrTop, Around.deeper]); omega)
  case un1 => ((try dsimp only [ktrTop, Around.deeper]); omega)
  case k1 =>
  intro h' tk' sd al pg gl osd t1 t2 t3 D9 F' N' hsd hScn n1 n2 ap n3 n4 n5
  generalize hTT : D9 ++ (277, tabObj #[]) :: tl = TT at N'
  k_sweep
  (repeat ((fail_if_success (with_reducible show wpAny _ _ (exec (Stmt.For _ _ _ _ _) _) _ _ _)); first | (k_unfold; (try dsimp only)) | walk1 | (dsimp only; walk1) | (leave1; walk_say "STEP leave1"; (try dsimp only))))
  refine' For_turns (h₀ := _) ?a9 ?b9 ?c9 ?d9
  case a9 => k_asm
  case c9 => (intro _; rfl)
  case d9 => passes_own
  case b9 =>
  (repeat ((fail_if_success (with_reducible show wpAny _ _ (pyIter _) _ _ _)); first | (k_unfold; (try dsimp only)) | walk1 | (dsimp only; walk1) | (leave1; walk_say "STEP leave1"; (try dsimp only))))
  ((with_reducible rename News _ _ _ _ => kN9))
  obtain ⟨fr0, D, vs5, kN8, hvs5, hl5, hlen5, hf5, hft, hA, hsf, haf, hD⟩ := told_ready2 kN9 hTT (by (simp only [List.forall_mem_cons]); (exact ⟨⟨by k_all, by k_ne, by k_ne⟩, ⟨by k_all, by k_ne, by k_ne⟩, ⟨by k_all, by k_ne, by k_ne⟩, ⟨by k_all, by k_ne, by k_ne⟩, ⟨by k_all, by k_ne, by k_ne⟩, ⟨by k_all, by k_ne, by k_ne⟩, fun _ h => (nomatch h)⟩)) n1 n2 ap n3 n4 n5 h277 hScn
  clear n1 n2 ap n4 n5 hScn hTT kN9
  k_dflt (refine' list_turnsT (JT prog w fr0 sd al pg gl osd _) ?hh2 ?F2 kN8 (vs := vs5) (n := 0) ?hm2 ?hL2 (JT.start hD hA) ?hJl2 ?turn2 ?done2)
  case hh2 => exact rfl
  case F2 => k_asm
  case hL2 => exact rfl
  case hm2 => exact .tail _ (.tail _ (List.mem_append_left _ hl5))
  case hJl2 =>
    rintro i m nx ⟨u1, u2, as, na, st, asl, D, rfl, _⟩
    exact .tail _ (.tail _ (List.mem_append_left _ hl5))
  case turn2 =>
    rintro i v I oI m₁ nx h tk hv ⟨u1, u2, as, na, st, asl, D, rfl, rfl, hD, hA, hR, hI, hP⟩ F N off
    obtain ⟨hi5, a, b, c, rfl, hmem⟩ := hf5 i v hv
    obtain ⟨b1, out, st1, st2, asl1, hT, hP2⟩ := phase_step hi5 hI hP
    have N2 := news_dup N (.tail _ (.tail _ (.tail _ (List.mem_append_left _ hmem))))
    (repeat ((fail_if_success (with_reducible show wpAny _ _ (call (Value.ref 282) _) _ _ _)); first | (k_unfold; (try dsimp only)) | walk1 | (dsimp only; walk1) | (leave1; walk_say "STEP leave1"; (try dsimp only))))
    (with_reducible rename News _ _ _ _ => kN6)
    k_dflt (refine' deed_stepT (z := i) (asl := asl) (st := st) (fr := (I, oI) :: fr0) (D := D) (as := as) (na := na) ?B6 ?F6 ?X6 ?T6 ?hk6 (news_sub kN6 ?s6) hsd hD ?hA6 ?hsf6 ?haf6 hI ?hz6 hR hT ?hCH6 ?dp6 ?un6 ?k6)
    case B6 => k_asm
    case F6 => k_asm
    case X6 => k_asm
    case T6 => k_asm
    case hk6 => exact rfl
    case s6 => 
      intro q hq
      simp only [List.mem_cons, List.mem_append] at hq ⊢
      rcases hq with h | h | (h | h) | h <;> simp [h]
    case hA6 => exact Apart.cons (fun q hq => off q (.tail _ (.tail _ (List.mem_append_right _ hq)))) hA
    case hsf6 => exact List.forall_mem_cons.mpr ⟨fun e => off (sd, osd) (.head _) e.symm, hsf⟩
    case haf6 => exact List.forall_mem_cons.mpr ⟨fun e => off (al, listOf as.toArray na) (.tail _ (.head _)) e.symm, haf⟩
    case hz6 => omega
    case hCH6 => assumption
    case dp6 => ((try dsimp only [ktrTop, Around.deeper]); omega)
    case un6 => ((try dsimp only [ktrTop, Around.deeper]); omega)
    case k6 =>
    intro h' tk' D' as' na' F' N' D2 R' A'
    k_steps
    refine' turn_told (na := na') ?F7 ?N7 ?s7 off D2 A' R' hT.inv hP2
    case F7 => k_asm
    case N7 => k_asm
    case s7 =>
      intro q hq
      simp only [List.mem_cons, List.mem_append] at hq ⊢
      rcases hq with h | h | h | h | h <;> simp [h]
  case done2 =>
    rintro m₁ nx h tk ⟨u1, u2, as, na, st, asl, D, rfl, rfl, hD, hA, hR, hI, hP⟩ F N
    rw [hlen5] at hP
    obtain ⟨_, _, rfl⟩ := hP
    dsimp only
    (repeat ((fail_if_success (with_reducible show wpAny _ _ (compareOp _ _ _) _ _ _)); first | (k_unfold; (try dsimp only)) | walk1 | (dsimp only; walk1) | (leave1; walk_say "STEP leave1"; (try dsimp only))))
    k_dflt (refine' eq_intsL (q := [2, 3]) (q' := [2, 3]) (us := [.int 2 _, .int 3 _]) (n' := 0) (c := true) ?N5 ?m5 ?m6 hR (LReads.cons .int (LReads.cons .int .nil)) (by decide) ?u5 ?_)
    case N5 => k_asm
    case m5 => k_mem
    case m6 => k_mem
    case u5 => ktr_units
    k_steps
    obtain ⟨K, hK1, hK2, hK3⟩ := told_end hD hA hft
    refine' ret _ _ K ?F8 (news_sub ?N8 ?s8) hK1 hK2
    case F8 => k_asm
    case N8 => k_asm
    case s8 =>
      intro q hq
      rcases List.mem_append.mp hq with hq | hq
      · simp [hK3 q hq]
      · simp [hft q hq]
theorem told_c_a : ∀ x, told_c_P x := pk_all e_61 told_c_c
theorem e_62 : cc = k_62 := pk_next e_61 told_c_a
theorem told_c {prog w p loose mean mg mb dp un gd cn cs a ccd cl outer A₀ base h₀ L m s Q E tl} : told_c_S prog w p loose mean mg mb dp un gd cn cs a ccd cl outer A₀ base h₀ L m s Q E tl :=
  told_c_a (prog, w, p, loose, mean, mg, mb, dp, un, gd, cn, cs, a, ccd, cl, outer, A₀, base, h₀, L, m, s, Q, E, tl, cc.2.2.2.2.2.2.2.2.2.2.2.2.2.2.2.2.2.2.2.2.2.2.2.2.2)
end
-- Zl
section
local macro_rules | `(tactic| walk_at $k:str) => mtRun [] k.getString
local macro_rules | `(tactic| walk_at $k:str) => mtRun [
  ("MINE mems", "F3 S3 I2 q hq P F2 E vhq r @2 aList.Mem.tail _ ?_ Kdone S3 R @1 aList.forall_mem_cons.mpr <2 ?a ?b C a P F2 E @1 aList.Mem.head _ r @2 aList.Mem.tail _ ?_ C b WMINE~mems X"),
  ("MINE offs", "F4 Kk_all E @1 aList.forall_mem_nil _ S3 R @1 aList.forall_mem_cons.mpr <2 ?a ?b C a Kk_ne C b WMINE~offs X"),
  ("call builtin:len", "S3 Kk_here H O @6 awpAny _ _ ( @2 acall ( @1 aValue.builtin $len [1 @1 aValue.ref _ _ _ _ D S5 R @4 alen_led ?N ?m ?z ?_ C N Kk_asm C m Kk_mem C z H Kassumption Kk_whole"),
  ("call ref", "S4 Kk_here D F2 S17 R @15 atake_c ?B ?F ?X ?T ?hk ( @2 anews_sub ?N ( @1 aPull.sub ?pu ?hs ?h1 ?h2 ?h3 ?h4 ?h5 ?dp ?un ?_ C B Kk_asm C F Kk_asm C X Kk_asm C T Kk_asm C hk E arfl C N Kk_asm C pu WMINE~pull C hs WMINE~offs C h3 H Kassumption C h4 H Kassumption C h5 H Kassumption C h1 F3 H Kassumption Kdecide X C h2 F3 H Kassumption Kdecide X C dp S2 T d3 ktrTop Around.deeper callerA 0 F2 Komega Kdecide C un S2 T d3 ktrTop Around.deeper callerA 0 F2 Komega Kdecide Kk_whole X I15 h' tk' k9 u9 i9 j9 ta9 tb9 F' N' k90 k91 i90 j90 j91 T Kk_sweep"),
  ("subscriptTail Name Constant ref str", "S3 Kk_here H O @6 awpAny _ _ ( @4 asubscriptTail _ _ ( @1 aValue.ref _ ( @2 aValue.str _ _ _ _ _ D S6 R @7 akda_item = knd @2 aPySem.strKind _ _ ?N ?m ?d ( @4 astrKind_is _ _ _ _ ?l ?_ C N H Kassumption C m Kk_mem C d H Kassumption C l Krfl Kk_whole"),
  ("Eq false", "H E anot_true_f")] k.getString
theorem law_holds : PySem.Challenge.rw_on0010_01.Holds := by
  w_on
  refine holds_law saidK fun said => ?_
  refine holds_open (q := viewK) (loose := [Str.ofString "ChanError"]) (Xt := fun s => xlAt viewK [] s && recOk (RowW.records PySem.Challenge.rw_on0010_01.row.toRowW) s) (XP := XL viewK []) (Yf := (kmHook heapK addrK addrK_ok [277]).obs) (Ya := (kmHook heapK addrK addrK_ok [277]).val) (YP := (kmHook heapK addrK addrK_ok [277]).says) (N := 4488) leftK (Hook.of (kmHook heapK addrK addrK_ok [277])) (Hook.keeps (kmHook heapK addrK addrK_ok [277])) (fun s e => xl_of s (Bool.and_eq_true_iff.mp e).1) XL.keeps (by rfl) (by rfl) (by rfl) (fun s e => recFacts_of (Bool.and_eq_true_iff.mp e).2) (by rfl) (by first | assumption | decide +kernel) (by decide +kernel) ⟨rfl, rfl, rfl, rfl, rfl, by decide +kernel⟩ ?hw ?hc
  case hw => exact witnessK
  case hc =>
  k_go0
  (repeat ((fail_if_success (with_reducible show wpAny _ _ (call (Value.ref 289) _) _ _ _)); first | (k_unfold; (try dsimp only)) | walk1 | (dsimp only; walk1) | (leave1; walk_say "STEP leave1"; (try dsimp only))))
  k_dflt (refine' told_c ?B1 ?F1 ?X1 ?T1 ?hk1 (told_swap ?N1) ?h1 ?c1 ?dp1 ?un1 ?k1)
  case B1 => k_asm
  case F1 => k_asm
  case X1 => k_asm
  case T1 => k_asm
  case hk1 => exact rfl
  case N1 => k_asm
  case dp1 => ((try dsimp only [ktrTop, Around.deeper, callerA]); (first | omega | decide))
  case un1 => ((try dsimp only [ktrTop, Around.deeper, callerA]); (first | omega | decide))
  case h1 => exact List.forall_mem_cons.mpr ⟨Nat.ne_of_gt (Nat.lt_succ_of_lt (by assumption)), fun _ h => nomatch h⟩
  case c1 => assumption
  case k1 =>
  intro h1 tk1 K F1 N1 hK hA1
  have N1' := back_swap N1
  k_sweep
  clear N1
  have hcK := hA1 _ (.head _)
  (repeat ((fail_if_success (with_reducible show wpAny _ _ (call (Value.ref 221) _) _ _ _)); first | (k_unfold; (try dsimp only)) | walk1 | (dsimp only; walk1) | (leave1; walk_say "STEP leave1"; (try dsimp only))))
  k_dflt (refine' pool_c ?B2 ?F2 ?X2 ?T2 ?hk2 ?N2 ?l2 ?i2 ?n2 ?dp2 ?un2 ?k2)
  case B2 => k_asm
  case F2 => k_asm
  case X2 => k_asm
  case T2 => k_asm
  case hk2 => exact rfl
  case N2 => k_asm
  case dp2 => ((try dsimp only [ktrTop, Around.deeper, callerA]); (first | omega | decide))
  case un2 => ((try dsimp only [ktrTop, Around.deeper, callerA]); (first | omega | decide))
  case l2 => assumption
  case i2 => assumption
  case n2 => assumption
  case k2 =>
  intro h2 tk2 r a b ta tb F2 N2 hr ha hb hb2
  k_sweep
  (repeat ((fail_if_success (with_reducible show wpAny _ _ (call (Value.ref 242) _) _ _ _)); first | (k_unfold; (try dsimp only)) | walk1 | (dsimp only; walk1) | (leave1; walk_say "STEP leave1"; (try dsimp only))))
  k_dflt (refine' scene_c ?B3 ?F3 ?X3 ?T3 ?hk3 ?N3 ?dp3 ?un3 ?k3)
  case B3 => k_asm
  case F3 => k_asm
  case X3 => k_asm
  case T3 => k_asm
  case hk3 => exact rfl
  case N3 => k_asm
  case dp3 => ((try dsimp only [ktrTop, Around.deeper, callerA]); (first | omega | decide))
  case un3 => ((try dsimp only [ktrTop, Around.deeper, callerA]); (first | omega | decide))
  case k3 =>
  intro h3 tk3 sd al pg gl osd t1 t2 t3 D F3 N3 hsd hS n1 n2 ap n3 n4 n5
  obtain ⟨TT, N4, hD, d1, d2, d3, d4, d5, d6, d7, d8, d9, d10⟩ := law_ready N3 hK hcK hr n1 n2 ap n3 n4 n5 hS
  clear N3 n1 n2 ap n4 n5 hS
  k_sweep
  (repeat ((fail_if_success (with_reducible show wpAny _ _ (exec (Stmt.For _ _ _ _ _) _) _ _ _)); first | (k_unfold; (try dsimp only)) | walk1 | (dsimp only; walk1) | (leave1; walk_say "STEP leave1"; (try dsimp only))))
  refine' For_turns (h₀ := _) ?a9 ?b9 ?c9 ?d9
  case a9 => k_asm
  case c9 => (intro _; rfl)
  case d9 => passes_own
  case b9 =>
  (repeat ((fail_if_success (with_reducible show wpAny _ _ (pyIter _) _ _ _)); first | (k_unfold; (try dsimp only)) | walk1 | (dsimp only; walk1) | (leave1; walk_say "STEP leave1"; (try dsimp only))))
  k_dflt (refine' range_turns (JW _ _ r _ sd al pg gl osd _ _) ?hh4 ?hr4 (range_sm ?kl4 ?kh4) (range_n ?kl5) ?F4 (news_sub ?N4 ?s4) ?hL4 (JW.start (na := 0) hD d1 d2 ?a4 ?b4 ?c4) ?hgo4 ?turn4 ?done4)
  case hh4 => exact rfl
  case hr4 => assumption
  case kl4 => assumption
  case kl5 => assumption
  case kh4 => assumption
  case F4 => k_asm
  case N4 => k_asm
  case hL4 => exact rfl
  case hgo4 => exact fun _ _ => rfl
  case s4 => walk_at "MINE sub"
  case a4 => assumption
  case b4 => assumption
  case c4 => assumption
  case done4 =>
    rintro m₁ nx h tk ⟨u1, u2, u3, u4, a, b, ta, tb, as, na, st, asl, D, rfl, rfl, hD, hr1, hc1, hR, hI, ha, hb, hb2⟩ F N
    dsimp only
    (repeat ((fail_if_success (with_reducible show GoodW _ _ _ _ _ _ _ ∧ GrownAll _ _)); first | (k_unfold; (try dsimp only)) | walk1 | (dsimp only; walk1) | (leave1; walk_say "STEP leave1"; (try dsimp only))))
    exact ⟨good_true F.keep rfl (by dsimp only; with_reducible assumption), grown N hD (fun q hq => .tail _ (.tail _ (.tail _ (.tail _ hq))))⟩
  case turn4 =>
    rintro i k I oI m₁ nx h tk hi ⟨u1, u2, u3, u4, a, b, ta, tb, as, na, st, asl, D, rfl, rfl, hD, hr1, hc1, hR, hI, ha, hb, hb2⟩ F N off
    dsimp only
    (repeat ((fail_if_success (with_reducible show LCt.CompSrcT _ _ _ _ _ _ _ _ _ _ _ _ _ _ _)); first | (k_unfold; (try dsimp only)) | walk1 | (dsimp only; walk1) | (leave1; walk_say "STEP leave1"; (try dsimp only))))
    k_dflt (refine LCt.CompSrcT.range (n := 4) (by rfl) (by k_asm) (by k_asm) (by assumption) (by decide) (by decide) (by decide) ?_)
    intro g9
    refine comp_rowsP (f := fun r => !(asl.contains r)) (G0 := fun v r => ∃ t, v = .int r t) (G := fun y r => ∃ t, y = .int r t) trivial ?turnC [0, 1, 2, 3] 0 [] (fun j v r h e => four_item h e) ?fin
    case turnC =>
      rintro v r2 I2 oI2 C oC D2 ys m₂ h tk E' ⟨t, rfl⟩ hC hx F N
      cases hb9 : asl.contains r2 with
      | true => k_steps
      | false => k_steps
    case fin =>
      intro zs hz D2 h tk F N off2
      rw [List.nil_append] at N
      dsimp only
      have hzs : LReads [] zs ((freeOf asl).map .int) := Rel2.intsL (tl := []) hz
      have off3 := off1_mem off2
      have hzl := led_len hzs
      have hz4 := free_len asl
      (repeat ((fail_if_success (with_reducible show wpAny _ _ (compareOp _ _ _) _ _ _)); first | (k_unfold; (try dsimp only)) | walk1 | (dsimp only; walk1) | (leave1; walk_say "STEP leave1"; (try dsimp only))))
      by_cases hfr : freeOf asl = []
      · k_dflt (refine' eq_intsL (q := freeOf asl) (q' := []) (us := []) (n' := 0) (c := true) ?N5 ?m5 ?m6 hzs .nil (decide_eq_true hfr) ?u5 ?_)
        case N5 => k_asm
        case m5 => k_mem
        case m6 => k_mem
        case u5 => ktr_units
        (repeat ((fail_if_success (with_reducible show TurnPost _ _ _ _ _ _ _ _ _)); first | (k_unfold; (try dsimp only)) | walk1 | (dsimp only; walk1) | (leave1; walk_say "STEP leave1"; (try dsimp only))))
        unfold TurnPost
        dsimp only
        (repeat ((fail_if_success (with_reducible show GoodW _ _ _ _ _ _ _ ∧ GrownAll _ _)); first | (k_unfold; (try dsimp only)) | walk1 | (dsimp only; walk1) | (leave1; walk_say "STEP leave1"; (try dsimp only))))
        (with_reducible rename Fr _ _ _ _ => kF8)
        (with_reducible rename News _ _ _ _ => kN8)
        exact ⟨good_true kF8.keep rfl (by dsimp only; with_reducible assumption), grown kN8 hD (by walk_at "MINE sub")⟩
      · have hz0 : 0 < zs.length := by rw [hzl]; exact List.length_pos_iff.mpr hfr
        k_dflt (refine' eq_intsL (q := freeOf asl) (q' := []) (us := []) (n' := 0) (c := false) ?N5 ?m5 ?m6 hzs .nil (decide_eq_false hfr) ?u5 ?_)
        case N5 => k_asm
        case m5 => k_mem
        case m6 => k_mem
        case u5 => ktr_units
        (repeat ((fail_if_success (with_reducible show wpAny _ _ (call (Value.ref 235) _) _ _ _)); first | (k_unfold; (try dsimp only)) | walk1 | (dsimp only; walk1) | (leave1; walk_say "STEP leave1"; (try dsimp only))))
        k_dflt (refine' one_c ?Bp ?Fp ?Xp ?Tp ?hkp (pulls2 ?Np ?pp ?qp) ?hsp ?hnp ?xp ?yp ?hap ?hbp ?hcp ?dpp ?unp ?kp)
        case Bp => k_asm
        case Fp => k_asm
        case Xp => k_asm
        case Tp => k_asm
        case hkp => exact rfl
        case Np => k_asm
        case pp => walk_at "MINE pull"
        case qp => walk_at "MINE pull"
        case hsp => walk_at "MINE offs"
        case hnp => k_ne
        case hap => assumption
        case hbp => assumption
        case hcp => assumption
        case dpp => ((try dsimp only [ktrTop, Around.deeper, callerA]); (first | omega | decide))
        case unp => ((try dsimp only [ktrTop, Around.deeper, callerA]); (first | omega | decide))
        case xp => exact Nat.le_of_ble_eq_true rfl
        case yp => exact Nat.le_of_ble_eq_true rfl
        case kp =>
        intro hp tkp xp vp ap bp tap tbp Fp Np hvp hap hbp hcp
        k_sweep
        obtain ⟨wd, tw, rfl, hW⟩ := word_item hvp
        (repeat ((fail_if_success (with_reducible show wpAny _ _ (compareOp _ _ _) _ _ _)); first | (k_unfold; (try dsimp only)) | walk1 | (dsimp only; walk1) | (leave1; walk_say "STEP leave1"; (try dsimp only))))
        k_dflt (refine' in_words ?N6 ?m6 hW ?u6 ?_)
        case N6 => k_asm
        case m6 => k_mem
        case u6 => ktr_units
        (repeat ((fail_if_success (with_reducible show wpAny _ _ (call (Value.ref 235) _) _ _ _)); first | (k_unfold; (try dsimp only)) | walk1 | (dsimp only; walk1) | (leave1; walk_say "STEP leave1"; (try dsimp only))))
        k_dflt (refine' one_c ?Bq ?Fq ?Xq ?Tq ?hkq (pulls2 ?Nq ?pq ?qq) ?hsq ?hnq ?xq ?yq ?haq ?hbq ?hcq ?dpq ?unq ?kq)
        case Bq => k_asm
        case Fq => k_asm
        case Xq => k_asm
        case Tq => k_asm
        case hkq => exact rfl
        case Nq => k_asm
        case pq => walk_at "MINE pull"
        case qq => walk_at "MINE pull"
        case hsq => walk_at "MINE offs"
        case hnq => k_ne
        case haq => assumption
        case hbq => assumption
        case hcq => assumption
        case dpq => ((try dsimp only [ktrTop, Around.deeper, callerA]); (first | omega | decide))
        case unq => ((try dsimp only [ktrTop, Around.deeper, callerA]); (first | omega | decide))
        case xq => exact hz0
        case yq => omega
        case kq =>
        intro hq tkq xq vq aq bq taq tbq Fq Nq hvq haq hbq hcq
        k_sweep
        obtain ⟨g, tg, rfl, hg⟩ := LReads.at_int hzs hvq
        (repeat ((fail_if_success (with_reducible show wpAny _ _ (call (Value.ref 235) _) _ _ _)); first | (k_unfold; (try dsimp only)) | walk1 | (dsimp only; walk1) | (leave1; walk_say "STEP leave1"; (try dsimp only))))
        k_dflt (refine' one_c ?Bs ?Fs ?Xs ?Ts ?hks (pulls2 ?Ns ?ps ?qs) ?hss ?hns ?xs ?ys ?has ?hbs ?hcs ?dps ?uns ?ks)
        case Bs => k_asm
        case Fs => k_asm
        case Xs => k_asm
        case Ts => k_asm
        case hks => exact rfl
        case Ns => k_asm
        case ps => walk_at "MINE pull"
        case qs => walk_at "MINE pull"
        case hss => walk_at "MINE offs"
        case hns => k_ne
        case has => assumption
        case hbs => assumption
        case hcs => assumption
        case dps => ((try dsimp only [ktrTop, Around.deeper, callerA]); (first | omega | decide))
        case uns => ((try dsimp only [ktrTop, Around.deeper, callerA]); (first | omega | decide))
        case xs => exact Nat.le_of_ble_eq_true rfl
        case ys => exact Nat.le_of_ble_eq_true rfl
        case ks =>
        intro hs tks xs vs as2 bs tas tbs Fs Ns hvs has hbs hcs
        k_sweep
        obtain ⟨many, tm, rfl⟩ := int_item hvs
        (repeat ((fail_if_success (with_reducible show wpAny _ _ (call (Value.ref 282) _) _ _ _)); first | (k_unfold; (try dsimp only)) | walk1 | (dsimp only; walk1) | (leave1; walk_say "STEP leave1"; (try dsimp only))))
        k_dflt (refine' deed_step (st2 := st0) (z := i) (asl := asl) (st := st) (D := D) (as := as) (na := na) ?B7 ?F7 ?X7 ?T7 ?hk7 (news_sub ?N7 ?s7) hsd hD (Apart.cons (a := I) (o := oI) (fun q hq => off q (.tail _ (.tail _ (.tail _ (.tail _ hq))))) (Apart.cons (a := r) (o := listOf #[.int as2 tas, .int bs tbs] 0) hr1 (Apart.cons hc1 Apart.nil))) ?hsf7 ?haf7 hI ?hz7 hR (free_mem hg) (deed_of hW ?d07 ?d17) ?XB7 ?TB7 ?ho7 ?hCH7 ?dp7 ?un7 ?k7)
        case B7 => k_asm
        case F7 => k_asm
        case X7 => k_asm
        case T7 => k_asm
        case hk7 => exact rfl
        case N7 => k_asm
        case s7 => (simp only [List.cons_append, List.nil_append]); walk_at "MINE mems"
        case hsf7 => walk_at "MINE nesr"
        case haf7 => walk_at "MINE nesr"
        case hz7 => omega
        case d07 => assumption
        case d17 => assumption
        case XB7 => k_asm
        case TB7 => k_asm
        case ho7 => exact rfl
        case hCH7 => assumption
        case dp7 => ((try dsimp only [ktrTop, Around.deeper, callerA]); (first | omega | decide))
        case un7 => ((try dsimp only [ktrTop, Around.deeper, callerA]); (first | omega | decide))
        case k7 =>
        intro h7 tk7 D' as' na' st2 asl2 F7 N7 D2' R' A' I2
        k_sweep
        (repeat ((fail_if_success (with_reducible show TurnPost _ _ _ _ _ _ _ _ _)); first | (k_unfold; (try dsimp only)) | walk1 | (dsimp only; walk1) | (leave1; walk_say "STEP leave1"; (try dsimp only))))
        refine' turn_law (na := na') (st := st2) (asl := asl2) ?F8 ?N8 ?s8 off D2' A' R' I2 has hbs hcs
        case F8 => k_asm
        case N8 => k_asm
        case s8 => walk_at "MINE sub"
end
end Mine
end

theorem PySem.Challenge.cw_on0010_01_holds : PySem.Challenge.rw_on0010_01.Holds :=
  Mine.law_holds
